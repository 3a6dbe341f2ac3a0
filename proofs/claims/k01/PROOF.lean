import PyProof.Rows.All
import Wide.All
import OpenK.AllK
import Wide.FinOn
import KE.KTupSum
import HandS.ForMost
import HandS.Wide
import HandS.Style
import HandS.Gcd
import KE.KMathG
import Flt.RightSqrt
import HandS.SlotsOwn
import HandS.IsInst
import KE.KOpsOwn
import KE.KCallOwn
import KE.KOwnIter
import OpenK.KMeth
import OpenK.KOps
import PyProof.InstNe
import HandS.OwnIter
import HandS.IterNext
import HandS.Defaults
import HandS.HeadHook2
import HandS.HeadNt
import HandS.Iter
import KE.GoesMore
import HandS.Codes
import HandS.Words
import HandS.Slots
import HandS.ClsMeth
import PyProof.ListIndex
import HandS.List
import HandS.Zip
import HandS.Star
import HandS.GenList
import KE.KStar
import KE.KDictZip
import HandS.AnyAll
import HandS.ExcOwn
import KE.KDictIter
import PyProof.GenCompT
import HandS.HeadHook4
import HandS.HeadWalk
import HandS.Conv
import HandS.TupAny
import HandS.Evl
import HandS.WordsExc
import HandS.Head0
import HandS.Head1
import HandS.Head2
import HandS.Head3
import HandS.HeadEnd
import HandS.HeadHook1
import HandS.HeadHook3
import HandS.FStr
import KE.KEqSeq
import HandS.TupMul
import HandS.TupSets
import PySem.Challenge.RW_sourceforms_k01_whole_echelons_and_kerne

set_option Elab.async false
set_option linter.all false
set_option maxRecDepth 100000
set_option maxHeartbeats 4000000
/-! rules of mine: a tuple turned round by a slice, the sum of a tuple -/
namespace MyR
open PySem PySem.Spec PyProof.Rows L2 HT
section
variable {prog : Program} {w : World} {A : Around} {E : Value → Shared → Prop} {s : Shared}
end
section
variable {X : Cx}
end
end MyR

set_option Elab.async false
set_option linter.all false
set_option maxRecDepth 100000
set_option maxHeartbeats 2000000
/-! rules for instances with slots: own +, -, *, unary -, ==, !=, len, str -/
namespace OwnR
open PySem PySem.Spec PyProof.Rows L2 SlX
section
variable {X : Cx} {CX : CXT} {C g : Addr} {n : Nat} {sp : Sp} {E : XK}
end
end OwnR

set_option Elab.async false
set_option linter.all false
set_option maxRecDepth 100000
set_option maxHeartbeats 2000000
/-! list(x) of an instance with own __iter__ (an iterator over a tuple) and own __len__; iter of a tuple -/
namespace OwnR
open PySem PySem.Spec PyProof.Rows L2 SlX
/-- at it an iterator over the tuple at t, the next place is i -/
def ItT (t it : Addr) (i : Nat) : HO := .ext fun h => IsTupIter h it t i
section
variable {X : Cx} {CX : CXT} {pins : List (Addr × Obj)} {σ : L2.St} {H : Hp} {s : Shared} {C g gl t it q : Addr} {n i : Nat} {sp spl : Sp} {E : XK}
/-- what stands while the iterator's items are taken -/
structure Tk (K : PySem.W.Frag) (H0 H : Hp) (t it q : Addr) (ys : List V) (i : Nat) : Prop where
  at_ : H it = some (ItT t it i)
  tu : SqT K H t ys
  li : H q = some (.lst (ys.take i))
  st : ∀ b o, b ≠ it → b ≠ q → H0 b = some o → H b = some o
end
end OwnR

set_option Elab.async false
set_option linter.all false
set_option maxRecDepth 100000
set_option maxHeartbeats 2000000
/-! a Hook that tells of defs found anywhere (a global, a class's method, a property's getter), and of classes with slots -/
namespace HookG
open PySem PySem.Spec PyProof.Rows L2 He
/-- the property f of the class at C -/
def prA (K : PySem.W.Frag) (C : Addr) (f : Str) : Addr := match PySem.W.recIn K (ma K C f) "property" with
  | some (.ref g :: _) => g
  | _ => 0
/-- where a def stands: a global; a method; a property's getter; a classmethod -/
inductive At where
  | glo (x : Str)
  | met (C m : Str)
  | prp (C f : Str)
  | cms (C m : Str)
def At.adr (K : PySem.W.Frag) : At → Addr
  | .glo x => ga K x
  | .met C m => ma K (ga K C) m
  | .prp C f => prA K (ga K C) f
  | .cms C m => He5.wf K (ga K C) "classmethod" m
structure GD where
  at_ : At
  name : Str
  qual : Str
  params : Arguments
  body : List Stmt
  scope : Scope
def fnA (K : PySem.W.Frag) (a : Addr) : FnW := match K.lookup a with
  | some ⟨_, _, .func fd, _⟩ => some (fd.name, fd.qualname, fd.params, fd.body, fd.scope, fd.globals, fd.closure, fd.builtins)
  | _ => none
def GD.val (d : GD) : FnW := some (d.name, d.qual, d.params, .stmts d.body, d.scope, mainGlobals, [], builtinsNs)
def GD.ok (K : PySem.W.Frag) (d : GD) : Bool := PySem.W.keepIn K (.ref (d.at_.adr K)) && (match K.lookup (d.at_.adr K) with
  | some ⟨_, _, .func fd, _⟩ => PySem.W.codeIn K fd.code d.qual && (dflB K fd.defaults [] && kwdB K fd.kwdefaults [])
  | _ => false)
theorem GD.funD {K : PySem.W.Frag} {d : GD} (e : fnA K (d.at_.adr K) = d.val) (c : d.ok K = true) : ∃ fd, FunD K d.name d.qual d.params d.body d.scope [] [] (d.at_.adr K) fd := by
  obtain ⟨kp, c2⟩ := ba c
  unfold fnA at e
  cases q : K.lookup (d.at_.adr K) with
  | none => rw [q] at c2; cases c2
  | some o =>
    obtain ⟨oc, od, dt, osl⟩ := o
    rw [q] at c2 e
    cases dt with
    | func fd =>
      obtain ⟨n1, n2, n3, n4, n5, n6, n7, n8, n9, n10, n11, n12, n13, n14, n15⟩ := fd
      have e2 : (some (n1, n2, n3, n4, n5, n6, n7, n15) : FnW) = some (d.name, d.qual, d.params, .stmts d.body, d.scope, mainGlobals, [], builtinsNs) := e
      simp only [Option.some.injEq, Prod.mk.injEq] at e2
      obtain ⟨h1, h2, h3, h4, h5, h6, h7, h8⟩ := e2
      subst h1 h2 h3 h4 h5 h6 h7 h8
      have c3 : (PySem.W.codeIn K n13 d.qual && (dflB K n8 [] && kwdB K n9 [])) = true := c2
      obtain ⟨k1, k2⟩ := ba c3
      obtain ⟨k3, k4⟩ := ba k2
      exact ⟨_, ⟨oc, od, n8, n9, n10, n11, n12, n13, n14, osl, rfl, q, k1, dflB_ok k3, kwdB_ok k4⟩, kp⟩
    | _ => cases c2
/-- a method: found in the class, a function -/
structure Mt (K : PySem.W.Frag) (C : Addr) (m : Str) (g : Addr) : Prop where
  at_ : PySem.W.findIn K (.ref C) m = some (some (.ref g))
  fn : PySem.W.isFn K (.ref g) = true
/-- a property, its getter at g -/
structure Pr (K : PySem.W.Frag) (C : Addr) (f : Str) (p g : Addr) : Prop where
  at_ : PySem.W.findIn K (.ref C) f = some (some (.ref p))
  get : PySem.W.specialIn K (.ref p) "__get__" = some (some (.builtin "property.__get__"))
  tk : PySem.W.takesIn K (.ref p) = some true
  rc : ∃ rest, PySem.W.recIn K p "property" = some (.ref g :: rest)
/-! ### the Hook -/
abbrev AlG : Type := Bool × List FnW
def obsG (fa : List Fa) (fn : List GD) (ex : PySem.W.Frag → Bool) (K : PySem.W.Frag) : AlG := ((fa.all fun f => f.ok K) && ((fn.all fun d => d.ok K) && ex K), fn.map fun d => fnA K (d.at_.adr K))
def valG (fn : List GD) : AlG := (true, fn.map GD.val)
def SaysG (fa : List Fa) (fn : List GD) (ex : PySem.W.Frag → Bool) (K : PySem.W.Frag) : Prop := obsG fa fn ex K = valG fn
section
variable {fa : List Fa} {fn : List GD} {ex : PySem.W.Frag → Bool} {K : PySem.W.Frag}
theorem SaysG.all (c : SaysG fa fn ex K) : ((fa.all fun f => f.ok K) && ((fn.all fun d => d.ok K) && ex K)) = true := congrArg (fun z : AlG => z.1) c
theorem SaysG.fact (c : SaysG fa fn ex K) (i : Nat) {f : Fa} (h : fa[i]? = some f := by rfl) : f.ok K = true := List.all_eq_true.mp (ba c.all).1 f (List.mem_of_getElem? h)
theorem SaysG.more (c : SaysG fa fn ex K) : ex K = true := (ba (ba c.all).2).2
theorem SaysG.def_ (c : SaysG fa fn ex K) (i : Nat) {d : GD} (h : fn[i]? = some d := by rfl) : ∃ fd, FunD K d.name d.qual d.params d.body d.scope [] [] (d.at_.adr K) fd := by
  have c2 := (ba (ba c.all).2).1
  have e : fn.map (fun d => fnA K (d.at_.adr K)) = fn.map GD.val := congrArg (fun z : AlG => z.2) c
  have e2 : (fn.map fun d => fnA K (d.at_.adr K))[i]? = (fn.map GD.val)[i]? := by rw [e]
  rw [List.getElem?_map, List.getElem?_map, h] at e2
  exact GD.funD (Option.some.inj e2) (List.all_eq_true.mp c2 d (List.mem_of_getElem? h))
end
end HookG

set_option Elab.async false
set_option linter.all false
set_option maxRecDepth 100000
set_option maxHeartbeats 2000000
/-! HookG's Hook over a lesser fragment: what the globals name, what is named by that, and so on; a function names its code and its defaults only -/
namespace HookG
open PySem PySem.Spec PyProof.Rows L2 He
def refsW (o : Obj) : List Addr := match o.data with
  | .func fd => refV fd.code ++ refV fd.defaults ++ refV fd.kwdefaults
  | _ => refsD o
def nxtW (g : Addr → Option Obj) (as : List Addr) : List Addr := as.flatMap fun a => match g a with
  | some o => refsW o
  | none => []
def levW (g : Addr → Option Obj) : Nat → List Addr → List Addr
  | 0, as => as
  | n + 1, as => as ++ levW g n (nxtW g as)
def asW (g : Addr → Option Obj) (n : Nat) : List Addr := levW g n [mainGlobals] ++ [cStatics]
end HookG

set_option Elab.async false
set_option linter.all false
set_option maxRecDepth 100000
set_option maxHeartbeats 2000000
/-! enumerate(t), t a tuple -/
namespace EnumT
open PySem PySem.Spec PyProof.Rows L2
open AutoSeq1 (wpAny_loadPart')
theorem meets_newT (l : Addr) (items : Array Value) (n : Nat) (dct : Option Addr) (sl : Array (Option Value)) :
    Meets (Builtin.«enumerate.__new__» ⟨[.type "enumerate", .ref l], []⟩) (fun _ R s => s.heap.get? l = some { cls := .type "tuple", dict := dct, data := .seq items n, slots := sl } ∧
      R (.ok (.ret (.ref (s.heap.push { cls := .type "tuple_iterator", data := .fields #[.ref l, .int 0 0] }).objs.size)))
        { s with heap := (s.heap.push { cls := .type "tuple_iterator", data := .fields #[.ref l, .int 0 0] }).push { cls := .type "enumerate", data := .fields #[.none, .bool false, .ref s.heap.objs.size, rawInt 0, .none, .none] } }) :=
  .of_wp fun prog w A R s h => by
    obtain ⟨hp, g, d, tk, os⟩ := s; obtain ⟨hl, h⟩ := h
    have hsub := sub_enumerate
    have hL : Heap.IsTuple (Shared.heap ⟨hp, g, d, tk, os⟩) l items := ⟨_, hl, rfl, n, rfl⟩
    wp_walk using wpAny_loadPart' hl
    refine wpAny_stack_any fun st => wpAny_pure ?_
    split
    · rename_i c _ _ _ _ _
      cases (c == Value.type "enumerate")
      · wp_walk using wpAny_loadPart' hl, wpAny_pyIter_tuple hL
        exact ⟨_, rfl, h⟩
      · wp_walk using wpAny_loadPart' hl, wpAny_pyIter_tuple hL
        exact ⟨_, rfl, h⟩
    · wp_walk using wpAny_loadPart' hl, wpAny_pyIter_tuple hL
      exact ⟨_, rfl, h⟩
section
variable {prog : Program} {w : World} {A : Around} {E : Value → Shared → Prop} {s : Shared}
theorem call_enumT {l : Addr} {items : Array Value} {Q : Value → Shared → Prop} (hL : s.heap.IsTuple l items)
    (h : ∀ h', IsEnum h' (s.heap.objs.size + 1) s.heap.objs.size 0 .none → h'.IsTupleIter s.heap.objs.size l 0 → h'.objs.size = s.heap.objs.size + 2 →
      (∀ b o, s.heap.get? b = some o → h'.get? b = some o) → Q (.ref (s.heap.objs.size + 1)) { s with heap := h' }) :
    wpAny (model prog w) A (call (.type "enumerate") [.ref l]) Q E s := by
  obtain ⟨⟨c, dct, dt, sl⟩, hl, hc, n, hd⟩ := hL
  replace hc : c = .type "tuple" := hc
  replace hd : dt = .seq items n := hd
  subst hc hd
  refine callType_new F.called_enumerate (by decide) (F.typeCall_enumerate_1 _) (F.newCall_enumerate_1 _) (fun obj => F.args_object_init_2 obj _) F.entry_enumerate_new
    (meets_newT l items n dct sl) ⟨hl, ?_⟩
  have hz : (s.heap.push { cls := .type "tuple_iterator", data := .fields #[.ref l, .int 0 0] }).objs.size = s.heap.objs.size + 1 := Heap.size_push ..
  show _ ∧ _
  rw [hz]
  have he : IsEnum ((s.heap.push { cls := .type "tuple_iterator", data := .fields #[.ref l, .int 0 0] }).push
      { cls := .type "enumerate", data := .fields #[.none, .bool false, .ref s.heap.objs.size, rawInt 0, .none, .none] }) (s.heap.objs.size + 1) s.heap.objs.size 0 .none := by
    have := Heap.get?_push_size (s.heap.push { cls := .type "tuple_iterator", data := .fields #[.ref l, .int 0 0] })
      (o := { cls := .type "enumerate", data := .fields #[.none, .bool false, .ref s.heap.objs.size, rawInt 0, .none, .none] }) rfl
    rw [hz] at this; exact this
  refine ⟨⟨_, he, rfl⟩, h _ he ⟨_, Heap.get?_push_of_some _ (Heap.get?_push_size _ rfl), rfl, rfl⟩ (by rw [Heap.size_push, hz]) fun b o x => Heap.get?_push_of_some _ (Heap.get?_push_of_some _ x)⟩
end
/-- the tuple at a, each item in a new pair -/
def IteT (K : PySem.W.Frag) (a : Addr) : It :=
  ⟨fun i H => ∃ (xs : List V) (x : V), SqT K H a xs ∧ xs[i]? = some x, fun i H v H' => ∃ T x, v = .ref T ∧ H T = none ∧ H' = upd H T (.tup [.int (i : Nat), x]) ∧ ∀ xs, SqT K H a xs → xs[i]? = some x, fun i H => ∃ xs : List V, SqT K H a xs ∧ xs.length = i⟩
theorem turn_enumT {P : Program} {w : World} {K : PySem.W.Frag} {elts : List Expr} {kk : Nat} {tpos : Pos} (a e it : Addr) (hait : a ≠ it) (hae : a ≠ e) :
    Turn P w K (.Tuple elts kk tpos) (IteT K a) [e, it] e (fun i h => (∃ old, IsEnum h e it ((i : Nat) : Int) old) ∧ h.IsTupleIter it a i ∧ e ≠ it) where
  mem := by simp
  obj := fun i h st b hb => by
    obtain ⟨⟨old, he⟩, ⟨o, ho, hc, hd⟩, _⟩ := st
    have e' : b = e ∨ b = it := by simpa using hb
    rcases e' with z | z
    · rw [z]; exact ⟨_, he, fun v q => nomatch q⟩
    · rw [z]; exact ⟨o, ho, fun v q => by rw [hd] at q; cases q⟩
  keep := fun i h h' st k => let ⟨⟨old, he⟩, hi, hne⟩ := st; ⟨⟨old, k e (by simp) _ he⟩, hi.at fun o q => k it (by simp) o q, hne⟩
  item := by
    intro X hP hw hK hc i pins s σ H E I hf st hg
    subst hP hw hK
    obtain ⟨⟨old, he⟩, hit, hne⟩ := st
    obtain ⟨xs, x, hq, hx⟩ := hg
    obtain ⟨its, rv, p, hz⟩ := I.tuple hq
    obtain ⟨u, hu, ru⟩ := rv.get hx
    have hel : e < s.heap.objs.size := Heap.lt_size he
    have hil : it < s.heap.objs.size := by obtain ⟨_, q, _⟩ := hit; exact Heap.lt_size q
    have pT : s.heap.IsTuple a its.toArray := p
    have hlt : i < its.toArray.size := by
      have := (List.getElem?_eq_some_iff.mp hu).1
      simpa using this
    refine wpAny_pyNext_enum_itemD (Draws.tuple (A := X.A.in1) (I.ok.hd hc) it a hait its.toArray) he ⟨hit, pT⟩ hlt hne (by simp [Ne.symm hae, hne]) fun x' h' tk hx' ho hit' hT hsz hk => ?_
    have hux : x' = u := by
      have h1 : its[i]? = some x' := by simpa using hx'
      rw [hu] at h1
      exact (Option.some.inj h1).symm
    subst hux
    refine ⟨_, rfl, wpAny_letOwnedTupleGo_enum (s := { s with heap := h', toks := tk + 1 }) ho fun h'' he' sb => ?_⟩
    have hT2 : h''.get? s.heap.objs.size = some { cls := .type "tuple", data := .seq #[.int i tk, x'] } := (sb.2 _ (Nat.ne_of_gt hel)).trans hT
    have new : ObjOk X.prog X.w (upd H s.heap.objs.size (.tup [.int (i : Nat), x])) h'' s.heap.objs.size (.tup [.int (i : Nat), x]) :=
      ⟨by show 2 ≤ sizeLine; decide, [.int i tk, x'], .cons ⟨_, rfl⟩ (.cons ru .nil), ⟨_, hT2, rfl, _, rfl⟩⟩
    have I1 : Inv X pins σ (upd H s.heap.objs.size (.tup [.int (i : Nat), x])) { s with heap := h'', toks := tk + 1 } :=
      I.turnedNew (ch := [e, it]) (fun b ob hb q => (sb.2 b (fun z => hb (by simp [z]))).trans (hk b ob (fun z => hb (by simp [z])) (fun z => hb (by simp [z])) q)) hf (Nat.le_refl _) new
    refine ⟨.ref s.heap.objs.size, _, I1, rfl, ⟨_, x, rfl, I.hok.fresh (Nat.le_refl _), rfl, fun ys hy => ?_⟩, ⟨⟨x', ?_⟩, hit'.1.at fun o q => (sb.2 it (Ne.symm hne)).trans q, hne⟩, fun b hb => ?_⟩
    · rw [show ys = xs from I.tuple_inj hy hq]
      exact hx
    · have e1 : ((i + 1 : Nat) : Int) = (i : Int) + 1 := by omega
      rw [e1]; exact he'
    · have hb' : b < s.heap.objs.size := by
        have e' : b = e ∨ b = it := by simpa using hb
        rcases e' with z | z
        · rw [z]; exact hel
        · rw [z]; exact hil
      rw [upd_ne (Nat.ne_of_lt hb')]
      exact (hf b hb).1
  done := by
    intro X hP hw hK hc i pins s σ H E I hf st hg
    subst hP hw hK
    obtain ⟨⟨old, he⟩, hit, hne⟩ := st
    obtain ⟨xs, hq, hx⟩ := hg
    obtain ⟨its, rv, p, hz⟩ := I.tuple hq
    obtain ⟨f0, f1, f2, f3, f4, f5⟩ := hf it (by simp)
    have hl := rv.length
    have hz2 : i = its.toArray.size := by rw [List.size_toArray]; omega
    subst hz2
    exact wpAny_pyNext_enum_endD (Draws.tuple (A := X.A.in1) (I.ok.hd hc) it a hait its.toArray) he ⟨hit, show s.heap.IsTuple a its.toArray from p⟩ fun h' eb => ⟨rfl, I.turned (t' := s.toks) (fun b o hb q => eb b o hb q) f0 f1 f3 f4 f5⟩
  self := fun A i s Q E st h => let ⟨⟨_, he⟩, _⟩ := st; wpAny_pyIter_enum he h
def iEnumT (K : PySem.W.Frag) (ta : TA) : TI := fun σ H R => ta σ H fun vs H1 => ∃ a xs, vs = [.ref a] ∧ SqT K H1 a xs ∧ R (IteT K a) H1
theorem pi_enumT {X : Cx} {e : Expr} {ta : TA} {p pos tpos : Pos} {elts : List Expr} {kk : Nat} (hg : Gl X "enumerate") (hm : X.mg "enumerate" = none) (ha : PA X [e] ta) (hs : starEach [e] X.env = [(false, eval e X.env)] := by rfl) :
    PI X (.Tuple elts kk tpos) (.Call (.Name "enumerate" p) [e] [] pos) (iEnumT X.K ta) := by
  refine ⟨fun pins s σ H R I h => ?_⟩
  refine Call_ (ld_blt I hg hm boot_enumerate (PyProof.Rows.callWith_type1 (thn (ha.run pos pins s σ H _ I h) fun us s1 ⟨vs, H1, I1, r1, q1⟩ => ?_) hs rfl))
  obtain ⟨a, xs, ex, hq, q⟩ := q1
  subst ex
  cases r1 with
  | cons r rr =>
    cases rr
    cases r
    obtain ⟨its, rv, p', hz⟩ := I1.tuple hq
    have hlt : a < s1.heap.objs.size := by obtain ⟨_, ho, _⟩ := p'; exact Heap.lt_size ho
    refine call_enumT (show s1.heap.IsTuple a its.toArray from p') fun h' he hit hsz hk => wpAny_pyIter_enum he ?_
    have I2 : Inv X pins σ H1 { s1 with heap := h' } := I1.kept (t' := s1.toks) hk
    refine ⟨s1.heap.objs.size + 1, [s1.heap.objs.size + 1, s1.heap.objs.size], _, _, H1, rfl, I2, turn_enumT a (s1.heap.objs.size + 1) s1.heap.objs.size (Nat.ne_of_lt hlt) (Nat.ne_of_lt (Nat.lt_succ_of_lt hlt)), ⟨⟨.none, he⟩, hit, Nat.succ_ne_self _⟩, fun b hb => ?_, q⟩
    have e' : b = s1.heap.objs.size + 1 ∨ b = s1.heap.objs.size := by simpa using hb
    have hle : s1.heap.objs.size ≤ b := by
      rcases e' with z | z
      · rw [z]; exact Nat.le_add_right _ _
      · rw [z]; exact Nat.le_refl _
    exact I1.fpOk hle (I1.hok.fresh hle)
end EnumT

set_option Elab.async false
set_option linter.all false
set_option maxRecDepth 100000
set_option maxHeartbeats 2000000
/-! a comprehension over enumerate(t), t a tuple -/
namespace EnumT
open PySem PySem.Spec PyProof.Rows L2
theorem lc_enumT {K : PySem.W.Frag} {a : Addr} {xs : List V} {g : TG} {tt : TT} {te : TE} {vs : List Nat} {σ : L2.St} {H1 : Hp} {D : Addr} {Qd : Hp → Prop} (Pv : Nat → Hp → Prop) (h0 : Pv 0 (upd H1 D (.lst []))) (hq : ∀ i H, i ≤ xs.length → Pv i H → SqT K H a xs)
    (hs : ∀ (i : Nat) (x : V) (T : Addr) (H : Hp), xs[i]? = some x → Pv i H → H T = none → g (.ref T) (wipe σ vs) (upd H T (.tup [.int (i : Nat), x])) fun σ2 H2 => wipe σ2 vs = wipe σ vs ∧ tt σ2 H2 fun b H3 =>
      if b = true then te σ2 H3 fun y H4 => ∃ acc, H4 D = some (.lst acc) ∧ acc.length < sizeLine ∧ Pv (i + 1) (upd H4 D (.lst (acc ++ [y]))) else Pv (i + 1) H3) (hd : ∀ H, Pv xs.length H → Qd H) :
    ∃ W : Nat → Nat → Hp → Prop, (∃ m, W 0 m (upd H1 D (.lst []))) ∧ ∀ i m H, W i m H →
      ((IteT K a).stop i H ∧ Qd H) ∨ ((IteT K a).go i H ∧ ∃ Nx : Hp → Prop, (∀ H', Nx H' → ∃ m', m' < m ∧ W (i + 1) m' H') ∧ ∀ x H', (IteT K a).yld i H x H' → g x (wipe σ vs) H' fun σ2 H2 => wipe σ2 vs = wipe σ vs ∧ tt σ2 H2 fun b H3 =>
        if b = true then te σ2 H3 fun y H4 => ∃ acc, H4 D = some (.lst acc) ∧ acc.length < sizeLine ∧ Nx (upd H4 D (.lst (acc ++ [y]))) else Nx H3) := by
  refine ⟨fun i m H => m = xs.length - i ∧ i ≤ xs.length ∧ Pv i H, ⟨xs.length, by simp, Nat.zero_le _, h0⟩, ?_⟩
  rintro i m H ⟨rfl, hi, p⟩
  have qx := hq i H hi p
  by_cases hlt : i < xs.length
  · have hx : xs[i]? = some xs[i] := List.getElem?_eq_getElem hlt
    refine .inr ⟨⟨xs, _, qx, hx⟩, Pv (i + 1), fun H' p' => ⟨xs.length - (i + 1), by omega, rfl, hlt, p'⟩, fun v H' y => ?_⟩
    obtain ⟨T, x', rfl, hT, rfl, f1⟩ := y
    exact hs i x' T H (f1 xs qx) p hT
  · have e : i = xs.length := by omega
    subst e
    exact .inl ⟨⟨xs, qx, rfl⟩, hd H p⟩
end EnumT

set_option Elab.async false
set_option linter.all false
set_option maxRecDepth 100000
set_option maxHeartbeats 2000000
/-! the rules of OwnR, OwnL, over the facts of HookG -/
namespace OwnF
open PySem PySem.Spec PyProof.Rows L2 He SlX OwnR HookG
/-- what is asked of a class with slots -/
structure OC (K : PySem.W.Frag) (C : Addr) : Prop where
  scl : SCls K C
  sis : SIsi K C
  first : PySem.W.selfFirst K C = true
  ne : PySem.W.findIn K (.ref C) "__ne__" = some (some (.builtin "object.__ne__"))
  ntup : PySem.W.notFirst K C (.type "tuple") = true
  rmul : PySem.W.findIn K (.ref C) "__rmul__" = some none
  imul : PySem.W.findIn K (.type "int") "__mul__" = some (some (.builtin "int.__mul__"))
  irmul : PySem.W.findIn K (.type "int") "__rmul__" = some (some (.builtin "int.__rmul__"))
  isub : PySem.W.subIn K (.type "int") (.ref C) = some false
  kself : PySem.W.kitOne K (.ref C) (.ref C) = some true
  ktup : PySem.W.kitOne K (.type "tuple") (.ref C) = some false
  kint : PySem.W.kitOne K (.type "int") (.ref C) = some false
section
variable {X : Cx} {C g gl pp : Addr} {n : Nat} {sp spl : Sp} {fd fdl : FuncData} {ps psl : List Str} {f : Str} {e : Expr} {pos : Pos} {ta : TE}
end
end OwnF

set_option Elab.async false
set_option linter.all false
set_option maxRecDepth 100000
set_option maxHeartbeats 2000000
/-! a method of an instance with slots -/
namespace OwnF
open PySem PySem.Spec PyProof.Rows L2 He SlX OwnR HookG
section
variable {X : Cx} {C g : Addr} {n : Nat} {sp : Sp} {fd : FuncData} {ps : List Str} {o e : Expr} {es : List Expr} {x : Str} {pos apos : Pos} {ta : TE} {t : TA}
end
end OwnF

set_option Elab.async false
set_option linter.all false
set_option maxRecDepth 100000
set_option maxHeartbeats 2000000
/-! classmethods, classes in local names, xs[i] op= e -/
namespace OwnC
open PySem PySem.Spec PyProof.Rows L2 He SlX OwnR HookG OwnF
/-- C.m is a classmethod: its record at p, its def at g -/
structure Cm (K : PySem.W.Frag) (C : Addr) (m : Str) (p g : Addr) : Prop where
  rd : ClX.CRead K C (.type "type")
  cm : ClX.CMet K C (.type "type") m p g
section
variable {X : Cx} {C p g f : Addr} {n i : Nat} {sp : Sp} {fd : FuncData} {ps : List Str} {o e : Expr} {es : List Expr} {m x : Str} {pos apos pp : Pos} {ta : TE} {t : TA}
end
end OwnC

set_option Elab.async false
set_option linter.all false
set_option maxRecDepth 100000
set_option maxHeartbeats 2000000
/-! sequences that may be a list or a tuple: len, index, enumerate -/
namespace SeqE
open PySem PySem.Spec PyProof.Rows L2
/-- at a a list or a tuple with these items -/
def Sq (H : Hp) (a : Addr) (xs : List V) : Prop := H a = some (.tup xs) ∨ H a = some (.lst xs)
theorem Sq.same {H H' : Hp} {a : Addr} {xs : List V} (h : Sq H a xs) (s : Same H H') : Sq H' a xs := h.elim (fun e => .inl (s _ _ e)) fun e => .inr (s _ _ e)
theorem Sq.upd {H : Hp} {a p : Addr} {o : HO} {xs : List V} (h : Sq H a xs) (hp : H p = none) : Sq (upd H p o) a xs := by
  refine h.elim (fun e => .inl ?_) fun e => .inr ?_ <;> rw [upd_ne (ne_of_none e hp)] <;> exact e
theorem PI_or {X : Cx} {tg it : Expr} {t1 t2 : TI} (h1 : PI X tg it t1) (h2 : PI X tg it t2) : PI X tg it (fun σ H R => t1 σ H R ∨ t2 σ H R) :=
  ⟨fun pins s σ H R I h => h.elim (h1.run pins s σ H R I) (h2.run pins s σ H R I)⟩
end SeqE

set_option Elab.async false
set_option linter.all false
set_option maxRecDepth 100000
set_option maxHeartbeats 2000000
/-! list(zip(*t)), t a tuple of two tuples -/
namespace ZipL
open PySem PySem.Spec PyProof.Rows L2 RZ
theorem nolen_zip : typeLookup (.type "zip") "__len__" = pure none := by rw [typeLookup_type, builtinLookup_eq_fast]; kernel_rfl
theorem nohint_zip : typeLookup (.type "zip") "__length_hint__" = pure none := by rw [typeLookup_type, builtinLookup_eq_fast]; kernel_rfl
/-! ### zip of two tuples, its tuple still out -/
section
variable {prog : Program} {w : World} {A : Around} {E : Value → Shared → Prop} {s : Shared}

theorem itemH {z TI TO T i1 i2 l1 l2 : Addr} {f : Bool} {oT : Obj} {k1 k2 : Nat} {xs ys : Array Value} {x y : Value} {Q : Value → Shared → Prop} (D : ZipApart z TI TO i1 i2 l1 l2)
    (hz : IsZipHeld s.heap z TI TO T f) (hT : s.heap.get? T = some oT) (hTI : IsPair s.heap TI (.ref i1) (.ref i2))
    (h1 : s.heap.IsTupleIter i1 l1 k1) (h2 : s.heap.IsTupleIter i2 l2 k2) (hl1 : s.heap.IsTuple l1 xs) (hl2 : s.heap.IsTuple l2 ys) (hx : xs[k1]? = some x) (hy : ys[k2]? = some y)
    (hQ : ∀ h', IsZipHeld h' z TI TO T true → h'.IsTupleIter i1 l1 (k1 + 1) → h'.IsTupleIter i2 l2 (k2 + 1) → IsPair h' s.heap.objs.size x y → h'.objs.size = s.heap.objs.size + 1 →
      (∀ c o, c ≠ z → c ≠ i1 → c ≠ i2 → s.heap.get? c = some o → h'.get? c = some o) → Q (.ref s.heap.objs.size) { s with heap := h' }) :
    wpAny (model prog w) A (Builtin.«zip.__next__» ⟨[.ref z], []⟩) (fun fin s' => ∃ v, fin = .done (.ret v) ∧ Q v s') E s := by
  show wpAny _ _ (field (.ref z) 2 >>= _) _ _ _
  refine wpAny_bind (wpAny_field hz rfl (x := .bool false) rfl ?_)
  show wpAny _ _ (field (.ref z) 3 >>= _) _ _ _
  refine wpAny_bind (wpAny_field hz rfl (x := .ref TI) rfl ?_)
  refine wpAny_bind (wpAny_seqItems hTI rfl ?_)
  show wpAny _ _ (Builtin.SmallTypes.ownedTupleIsFree (.ref z) >>= _) _ _ _
  refine wpAny_bind (wpAny_tupleHeld_zip hz hT fun h₁ hz₁ hs₁ => ?_)
  simp only [Bool.false_eq_true, if_false]
  refine wpAny_bind ?_
  rw [← Array.forIn_toList]
  simp only [List.forIn_cons, List.forIn_nil]
  refine wpAny_bind (wpAny_bind (wpAny_holding ?_))
  show wpAny _ _ (Builtin.SmallTypes.nextOf (.ref i1) >>= _) _ _ _
  refine wpAny_bind (nextOf_tuple_item (s := { s with heap := h₁ }) (h1.extBut hs₁.extBut D.i1z) (hl1.extBut hs₁.extBut D.l1z) hx fun h₂ h1₂ hs₂ => wpAny_pure ?_)
  refine wpAny_pure ?_
  refine wpAny_bind (wpAny_bind (wpAny_holding ?_))
  show wpAny _ _ (Builtin.SmallTypes.nextOf (.ref i2) >>= _) _ _ _
  refine wpAny_bind (nextOf_tuple_item (s := { s with heap := h₂ }) ((h2.extBut hs₁.extBut D.i2z).extBut hs₂.extBut D.i12.symm) ((hl2.extBut hs₁.extBut D.l2z).extBut hs₂.extBut D.l2i1) hy fun h₃ h2₃ hs₃ => wpAny_pure ?_)
  refine wpAny_pure (wpAny_pure ?_)
  show wpAny _ _ (newTuple [x, y] >>= _) _ _ _
  refine wpAny_bind (wpAny_newTuple ?_)
  have hsz : h₃.objs.size = s.heap.objs.size := by rw [hs₃.1, hs₂.1, hs₁.1]
  have hz₃ : IsZipHeld h₃ z TI TO T true := hs₃.extBut _ _ D.i2z.symm (hs₂.extBut _ _ D.i1z.symm hz₁)
  have hk : ∀ c o, c ≠ z → c ≠ i1 → c ≠ i2 → s.heap.get? c = some o → h₃.get? c = some o := fun c o c1 c2 c3 e => hs₃.extBut _ _ c3 (hs₂.extBut _ _ c2 (hs₁.extBut _ _ c1 e))
  have h1₃ : h₃.IsTupleIter i1 l1 (k1 + 1) := h1₂.extBut hs₃.extBut D.i12
  refine wpAny_pure ⟨_, rfl, ?_⟩
  show Q (.ref h₃.objs.size) _
  have hp : IsPair (h₃.push { cls := .type "tuple", data := .seq #[x, y] }) h₃.objs.size x y := Heap.get?_push_size _ rfl
  have hz4 : (h₃.push { cls := .type "tuple", data := .seq #[x, y] }).objs.size = h₃.objs.size + 1 := Heap.size_push ..
  rw [hsz] at hp hz4 ⊢
  exact hQ _ (Heap.get?_push_of_some _ hz₃) (h1₃.at fun o e => Heap.get?_push_of_some _ e) (h2₃.at fun o e => Heap.get?_push_of_some _ e) hp hz4 fun c o c1 c2 c3 e => Heap.get?_push_of_some _ (hk c o c1 c2 c3 e)

theorem endH {z TI TO T i1 i2 l1 l2 : Addr} {f : Bool} {oT : Obj} {k1 k2 : Nat} {xs ys : Array Value} {Q : Fin → Shared → Prop} (hh : A.handled = none) (D : ZipApart z TI TO i1 i2 l1 l2)
    (hz : IsZipHeld s.heap z TI TO T f) (hT : s.heap.get? T = some oT) (hTI : IsPair s.heap TI (.ref i1) (.ref i2))
    (h1 : s.heap.IsTupleIter i1 l1 k1) (hl1 : s.heap.IsTuple l1 xs) (hend : xs[k1]? = none)
    (hE : ∀ h' e, (∀ c o, c ≠ z → c ≠ i1 → c ≠ i2 → s.heap.get? c = some o → h'.get? c = some o) → (∃ o, h'.get? e = some o ∧ o.cls = .type "StopIteration") → E (.ref e) { s with heap := h' }) :
    wpAny (model prog w) A (Builtin.«zip.__next__» ⟨[.ref z], []⟩) Q E s := by
  show wpAny _ _ (field (.ref z) 2 >>= _) _ _ _
  refine wpAny_bind (wpAny_field hz rfl (x := .bool false) rfl ?_)
  show wpAny _ _ (field (.ref z) 3 >>= _) _ _ _
  refine wpAny_bind (wpAny_field hz rfl (x := .ref TI) rfl ?_)
  refine wpAny_bind (wpAny_seqItems hTI rfl ?_)
  show wpAny _ _ (Builtin.SmallTypes.ownedTupleIsFree (.ref z) >>= _) _ _ _
  refine wpAny_bind (wpAny_tupleHeld_zip hz hT fun h₁ hz₁ hs₁ => ?_)
  simp only [Bool.false_eq_true, if_false]
  refine wpAny_bind ?_
  rw [← Array.forIn_toList]
  simp only [List.forIn_cons, List.forIn_nil]
  refine wpAny_bind (wpAny_bind (wpAny_holding ?_))
  show wpAny _ _ (Builtin.SmallTypes.nextOf (.ref i1) >>= _) _ _ _
  refine wpAny_bind (nextOf_tuple_end (s := { s with heap := h₁ }) hh (h1.extBut hs₁.extBut D.i1z) (hl1.extBut hs₁.extBut D.l1z) hend fun h₂ e hs₂ he => ?_)
  exact hE h₂ e (fun c o c1 c2 _ x => hs₂ _ _ c2 (hs₁.extBut _ _ c1 x)) he
/-- the zip's state: its tuple is free, or out -/
def ZS (h : Heap) (z TI TO i1 i2 : Addr) : Prop := (IsZip h z TI TO .none ∧ ∃ a b, IsPair h TO a b) ∨ ∃ T f oT, PySem.IsZipHeld h z TI TO T f ∧ h.get? T = some oT ∧ T ≠ z ∧ T ≠ TO ∧ T ≠ i1 ∧ T ≠ i2
theorem next_item {z TI TO i1 i2 l1 l2 : Addr} {k1 k2 : Nat} {xs ys : Array Value} {x y : Value} {Q : Option Value → Shared → Prop} (D : ZipApart z TI TO i1 i2 l1 l2)
    (hz : ZS s.heap z TI TO i1 i2) (hTI : IsPair s.heap TI (.ref i1) (.ref i2))
    (h1 : s.heap.IsTupleIter i1 l1 k1) (h2 : s.heap.IsTupleIter i2 l2 k2) (hl1 : s.heap.IsTuple l1 xs) (hl2 : s.heap.IsTuple l2 ys) (hx : xs[k1]? = some x) (hy : ys[k2]? = some y)
    (hTOl : TO < s.heap.objs.size)
    (hQ : ∀ h', ZS h' z TI TO i1 i2 → h'.IsTupleIter i1 l1 (k1 + 1) → h'.IsTupleIter i2 l2 (k2 + 1) → IsPair h' s.heap.objs.size x y → h'.objs.size = s.heap.objs.size + 1 →
      (∀ c o, c ≠ z → c ≠ TO → c ≠ i1 → c ≠ i2 → s.heap.get? c = some o → h'.get? c = some o) → Q (some (.ref s.heap.objs.size)) { s with heap := h' }) :
    wpAny (model prog w) A (pyNext (.ref z)) Q E s := by
  have l1lt : i1 < s.heap.objs.size := by obtain ⟨_, e, _⟩ := h1; exact Heap.lt_size e
  have l2lt : i2 < s.heap.objs.size := by obtain ⟨_, e, _⟩ := h2; exact Heap.lt_size e
  rcases hz with ⟨hz, a, b, hTO⟩ | ⟨T, f, oT, hz, hT, t1, t2, t3, t4⟩
  · have hzl : z < s.heap.objs.size := Heap.lt_size hz
    exact pyNext_zipT_item D hz hTI hTO h1 h2 hl1 hl2 hx hy fun h' z' TO' h1' h2' hT hsz hk => hQ h' (.inr ⟨_, false, _, z', hT, Nat.ne_of_gt hzl, Nat.ne_of_gt hTOl, Nat.ne_of_gt l1lt, Nat.ne_of_gt l2lt⟩) h1' h2' hT hsz hk
  · have hTy : s.TypeIs (.ref z) "zip" := ⟨_, hz, rfl⟩
    unfold pyNext
    exact wpAny_bind (wpAny_attempt (wpAny_callSpecial?_slot (name := Str.ofString "__next__") hTy F.slot_zip_next
      (wpAny_call_entry F.slot_zip_next hTy F.entry_zip_next
        (itemH D hz hT hTI h1 h2 hl1 hl2 hx hy fun h' a1 a3 a4 a5 a6 a7 => wpAny_pure (hQ h' (.inr ⟨T, true, oT, a1, a7 T oT t1 t3 t4 hT, t1, t2, t3, t4⟩) a3 a4 a5 a6 fun c o c1 _ c3 c4 e => a7 c o c1 c3 c4 e)) (F.args_zip_next_1 _))))
theorem next_end {z TI TO i1 i2 l1 l2 : Addr} {k1 k2 : Nat} {xs ys : Array Value} {Q : Option Value → Shared → Prop} (hh : A.handled = none) (D : ZipApart z TI TO i1 i2 l1 l2)
    (hz : ZS s.heap z TI TO i1 i2) (hTI : IsPair s.heap TI (.ref i1) (.ref i2)) (h1 : s.heap.IsTupleIter i1 l1 k1) (h2 : s.heap.IsTupleIter i2 l2 k2) (hl1 : s.heap.IsTuple l1 xs) (hl2 : s.heap.IsTuple l2 ys) (hend : xs[k1]? = none)
    (hQ : ∀ h', (∀ c o, c ≠ z → c ≠ TO → c ≠ i1 → c ≠ i2 → s.heap.get? c = some o → h'.get? c = some o) → Q none { s with heap := h' }) : wpAny (model prog w) A (pyNext (.ref z)) Q E s := by
  rcases hz with ⟨hz, a, b, hTO⟩ | ⟨T, f, oT, hz, hT, t1, t2, t3, t4⟩
  · exact pyNext_zipT_end hh D hz hTI hTO h1 h2 hl1 hl2 (.inl hend) hQ
  · have hTy : s.TypeIs (.ref z) "zip" := ⟨_, hz, rfl⟩
    unfold pyNext
    refine wpAny_bind (wpAny_attempt (wpAny_callSpecial?_slot (name := Str.ofString "__next__") hTy F.slot_zip_next
      (wpAny_call_entry F.slot_zip_next hTy F.entry_zip_next (endH (k2 := 0) (ys := #[]) hh D hz hT hTI h1 hl1 hend fun h' e hk he => ?_) (F.args_zip_next_1 _))))
    obtain ⟨o, ho, hc⟩ := he
    refine wpAny_bind (wpAny_isInstance (T := "StopIteration") (b := true) ⟨o, ho, hc⟩ isSubtype_stop ?_)
    exact wpAny_pure (hQ _ fun c o c1 _ c3 c4 e => hk c o c1 c3 c4 e)
end

abbrev lo (acc : Array Value) (c : Nat) : Obj := { cls := .type "list", dict := none, data := .seq acc c, slots := #[] }
section
variable {X : Cx} {pins : List (Addr × Obj)} {σ : L2.St} {H : Hp} {s : Shared}
/-- a list that was made behind the heap is known from now on -/
theorem adopt {S : Addr} {acc : Array Value} {c : Nat} {out : List V} (I : Inv X pins σ H s) (hf : FpOk X pins H S) (e : s.heap.get? S = some (lo acc c)) (r : Vals out acc.toList) (hlen : out.length ≤ sizeLine) : Inv X pins σ (upd H S (.lst out)) s := by
  have hn := hf.1
  refine I.call' (ch := [S]) rfl ⟨fun b ob q n hb hx => q, fun b ob q n hb hx => ⟨ob.slots, q⟩, fun b ob q n hx => ?_, fun b ob q hx => ⟨ob, q⟩, fun b xs q => ?_, fun b ob y q => ?_, fun b qs q => ⟨#[], ?_⟩⟩ (fun b u q => ?_) I.bare (fun b hb => ?_)
  · rw [upd_ne (by simpa using hx)]; exact n
  · rw [upd_ne (ne_of_none q hn)]; exact q
  · rw [upd_ne (ne_of_none q hn)]; exact q
  · rw [upd_ne (ne_of_none q hn), q]; simp
  · by_cases hb : b = S
    · subst hb
      rw [upd_same] at q
      cases q
      exact ⟨hlen, acc.toList, c, r, by rw [e]⟩
    · rw [upd_ne hb] at q
      exact (I.hok b u q).stay (fun _ _ _ z => z) (fun d z => by rw [upd_ne (ne_of_none z hn)]; exact z) fun d xs z => by rw [upd_ne (ne_of_none z hn)]; exact z
  · rw [List.mem_singleton.mp hb]
    exact ⟨hf.2.2.2.1, hf.2.1, hf.2.2.2.2.1, hf.2.2.2.2.2⟩
theorem fpOk_upd {T b : Addr} {o : HO} (h : FpOk X pins H b) (n : b ≠ T) : FpOk X pins (upd H T o) b := ⟨by rw [upd_ne n]; exact h.1, h.2⟩
theorem vals_refsZ : ∀ ts : List Addr, Vals (ts.map V.ref) (ts.map Value.ref)
  | [] => .nil
  | _ :: r => .cons rfl (vals_refsZ r)
end
section
variable {X : Cx} {e : Expr} {te : TE} {p p2 sp pos pos2 : Pos}
end
end ZipL

set_option Elab.async false
set_option linter.all false
set_option maxRecDepth 100000
set_option maxHeartbeats 2000000
/-! list(zip(*t)), t a tuple of tuples of one length -/
namespace ZipN
open PySem PySem.Spec PyProof.Rows L2 RZ ZipL
abbrev TupN (h : Heap) (T : Addr) (vs : List Value) : Prop := h.get? T = some { cls := .type "tuple", data := .seq vs.toArray }
/-- the iterators lie one after the other -/
def itv (N n : Nat) : List Value := (List.range n).map fun i => Value.ref (N + i)
theorem itv_len (N n : Nat) : (itv N n).length = n := by
  unfold itv
  rw [List.length_map, List.length_range]
theorem cons_drop {α : Type} {l : List α} {j : Nat} {x : α} {rest : List α} (h : x :: rest = l.drop j) : l[j]? = some x ∧ rest = l.drop (j + 1) := by
  constructor
  · rw [← List.head?_drop, ← h]
    rfl
  · rw [← List.tail_drop, ← h]
    rfl
theorem itv_get {N n j : Nat} {x : Value} (h : (itv N n)[j]? = some x) : j < n ∧ x = .ref (N + j) := by
  have hj := (List.getElem?_eq_some_iff.mp h).1
  rw [itv_len] at hj
  refine ⟨hj, ?_⟩
  unfold itv at h
  rw [List.getElem?_map, List.getElem?_range hj] at h
  exact (Option.some.inj h).symm
section
variable {prog : Program} {w : World} {A : Around} {E : Value → Shared → Prop} {s : Shared}
/-- what one turn asks of the iterators and the tuples behind them -/
structure Ready (h : Heap) (N k : Nat) (ls : List Addr) (us : List Value) : Prop where
  n0 : 0 < ls.length
  n1 : ls.length ≤ 1000
  lt : ∀ l ∈ ls, l < N
  ul : us.length = ls.length
  it : ∀ (i : Nat) (l : Addr), ls[i]? = some l → h.IsTupleIter (N + i) l k
  tu : ∀ (i : Nat) (l : Addr), ls[i]? = some l → ∃ (xs : Array Value) (u : Value), h.IsTuple l xs ∧ xs[k]? = some u ∧ us[i]? = some u
theorem itemH {N k T : Nat} {f : Bool} {oT : Obj} {ls : List Addr} {us : List Value} {Q : Value → Shared → Prop} (R : Ready s.heap N k ls us)
    (hz : PySem.IsZipHeld s.heap (N + ls.length + 2) (N + ls.length) (N + ls.length + 1) T f) (hT : s.heap.get? T = some oT) (hTI : TupN s.heap (N + ls.length) (itv N ls.length))
    (hQ : ∀ h', PySem.IsZipHeld h' (N + ls.length + 2) (N + ls.length) (N + ls.length + 1) T true → (∀ i l, ls[i]? = some l → h'.IsTupleIter (N + i) l (k + 1)) → TupN h' s.heap.objs.size us → h'.objs.size = s.heap.objs.size + 1 →
      (∀ c o, (c < N ∨ N + ls.length ≤ c) → c ≠ N + ls.length + 2 → s.heap.get? c = some o → h'.get? c = some o) → Q (.ref s.heap.objs.size) { s with heap := h' }) :
    wpAny (model prog w) A (Builtin.«zip.__next__» ⟨[.ref (N + ls.length + 2)], []⟩) (fun fin s' => ∃ v, fin = .done (.ret v) ∧ Q v s') E s := by
  show wpAny _ _ (field (.ref (N + ls.length + 2)) 2 >>= _) _ _ _
  refine wpAny_bind (wpAny_field hz rfl (x := .bool false) rfl ?_)
  show wpAny _ _ (field (.ref (N + ls.length + 2)) 3 >>= _) _ _ _
  refine wpAny_bind (wpAny_field hz rfl (x := .ref (N + ls.length)) rfl ?_)
  refine wpAny_bind (wpAny_seqItems hTI rfl ?_)
  have ne : (itv N ls.length).toArray.isEmpty = false := by
    have := R.n0
    rw [List.isEmpty_toArray]
    cases e : itv N ls.length with
    | nil =>
      have := itv_len N ls.length
      rw [e] at this
      simp at this
      omega
    | cons => rfl
  simp only [ne, Bool.false_eq_true, if_false]
  show wpAny _ _ (Builtin.SmallTypes.ownedTupleIsFree (.ref (N + ls.length + 2)) >>= _) _ _ _
  refine wpAny_bind (wpAny_tupleHeld_zip hz hT fun h₁ hz₁ hs₁ => ?_)
  simp only [Bool.false_eq_true, if_false]
  refine wpAny_bind ?_
  rw [← Array.forIn_toList]
  have nn := R.n1
  have zl : N + ls.length + 2 < s.heap.objs.size := Heap.lt_size hz
  refine wpAny_forIn_list _ (fun rest b s' => b.1 = none ∧ ∃ j h', rest = (itv N ls.length).drop j ∧ j ≤ ls.length ∧ b.2.toList = us.take j ∧ s' = { s with heap := h' } ∧ h'.objs.size = s.heap.objs.size ∧
    (∀ (i : Nat) (l : Addr), ls[i]? = some l → h'.IsTupleIter (N + i) l (if i < j then k + 1 else k)) ∧ ∀ c o, (c < N ∨ N + ls.length ≤ c) → h₁.get? c = some o → h'.get? c = some o) _ (fun x rest b s₁ hI => ?_) (fun b s₁ hI => ?_) _ _
    ⟨rfl, 0, h₁, rfl, Nat.zero_le _, rfl, rfl, hs₁.1, fun i l e => by rw [if_neg (Nat.not_lt_zero _)]; exact (R.it i l e).extBut hs₁.extBut (Nat.ne_of_lt (by have := (List.getElem?_eq_some_iff.mp e).1; omega)), fun c o _ e => e⟩
  · obtain ⟨b1, j, h', er, hj, eb, rfl, sz, hit, hk⟩ := hI
    obtain ⟨e1, e2⟩ := cons_drop er
    obtain ⟨hj2, rfl⟩ := itv_get e1
    have el := List.getElem?_eq_getElem hj2
    obtain ⟨xs, u, htu, hxu, huu⟩ := R.tu j ls[j] el
    have lN := R.lt ls[j] (List.getElem_mem hj2)
    refine wpAny_bind (wpAny_holding ?_)
    show wpAny _ _ (Builtin.SmallTypes.nextOf (.ref (N + j)) >>= _) _ _ _
    have hi := hit j ls[j] el
    rw [if_neg (Nat.lt_irrefl _)] at hi
    have htu' : h'.IsTuple ls[j] xs := by
      obtain ⟨o, ho, r⟩ := htu
      exact ⟨o, hk _ _ (.inl lN) (hs₁.extBut _ _ (Nat.ne_of_lt (Nat.lt_of_lt_of_le lN (by rw [Nat.add_assoc]; exact Nat.le_add_right ..))) ho), r⟩
    refine wpAny_bind (nextOf_tuple_item (s := { s with heap := h' }) hi htu' hxu fun h2 hi2 hs2 => wpAny_pure ?_)
    refine wpAny_pure ⟨rfl, j + 1, h2, e2, hj2, ?_, rfl, hs2.1.trans sz, fun i l e => ?_, fun c o hc e => hs2.extBut _ _ (fun z : c = N + j => by have z : (c : Nat) = N + j := z; omega) (hk c o hc e)⟩
    · rw [Array.toList_push, eb, List.take_add_one, huu]
      rfl
    · by_cases c : i = j
      · subst c
        rw [el] at e
        cases e
        rw [if_pos (Nat.lt_succ_self _)]
        exact hi2
      · have := (hit i l e).extBut hs2.extBut (show N + i ≠ N + j by omega)
        by_cases d : i < j
        · rw [if_pos d] at this
          rw [if_pos (by omega)]
          exact this
        · rw [if_neg d] at this
          rw [if_neg (by omega)]
          exact this
  · obtain ⟨b1, j, h', er, hj, eb, rfl, sz, hit, hk⟩ := hI
    have ej : j = ls.length := by
      have := congrArg List.length er
      rw [List.length_drop, itv_len] at this
      have h0 : ([] : List Value).length = 0 := rfl
      omega
    subst ej
    rw [List.take_of_length_le (Nat.le_of_eq R.ul)] at eb
    rw [b1, eb]
    show wpAny _ _ (newTuple us >>= _) _ _ _
    refine wpAny_bind (wpAny_newTuple ?_ (by rw [R.ul]; exact Nat.le_trans nn (by decide)))
    have up : ∀ c o, h'.get? c = some o → (h'.push { cls := .type "tuple", data := .seq us.toArray }).get? c = some o := fun c o e => Heap.get?_push_of_some _ e
    refine wpAny_pure ⟨_, rfl, ?_⟩
    show Q (.ref h'.objs.size) _
    have hp : TupN (h'.push { cls := .type "tuple", data := .seq us.toArray }) h'.objs.size us := Heap.get?_push_size _ rfl
    rw [sz] at hp ⊢
    refine hQ _ (up _ _ (hk _ _ (.inr (by omega)) hz₁)) (fun i l e => ?_) hp (by rw [Heap.size_push, sz]) fun c o hc nc e => up _ _ (hk c o hc (hs₁.extBut _ _ nc e))
    have := hit i l e
    rw [if_pos (List.getElem?_eq_some_iff.mp e).1] at this
    exact this.at fun o e => up _ o e
theorem set_row {us vs : List Value} {j : Nat} {u : Value} (hl : vs.length = us.length) (h : us[j]? = some u) : (us.take j ++ vs.drop j).set j u = us.take (j + 1) ++ vs.drop (j + 1) := by
  have hj := (List.getElem?_eq_some_iff.mp h).1
  have ht : (us.take j).length = j := by rw [List.length_take]; omega
  rw [List.set_append_right j u (by omega), ht, Nat.sub_self, List.drop_eq_getElem_cons (by omega), List.set_cons_zero, List.take_add_one, h, List.append_assoc]
  rfl
theorem wpAny_updateSeqN {T : Addr} {vs : List Value} {x : Value} {k : Nat} {Q : Unit → Shared → Prop} (hT : TupN s.heap T vs) (hl : vs.length ≤ 1000)
    (h : ∀ h', TupN h' T (vs.set k x) → Heap.SameBut T s.heap h' → Q () { s with heap := h' }) :
    wpAny (model prog w) A (updateSeq T (·.setIfInBounds k x)) Q E s := by
  refine wpAny_updateSeq hT rfl (h _ ?_ (Heap.SameBut.update ..)) (by rw [List.size_toArray]; exact Nat.le_trans hl (by decide)) (by rw [Array.size_setIfInBounds, List.size_toArray]; exact Nat.le_trans hl (by decide))
  show (s.heap.update T _).get? T = _
  rw [Heap.get?_update_self _ hT rfl]
  simp [Obj.mapSeq]
theorem itemF {N k : Nat} {ls : List Addr} {us vs : List Value} {Q : Value → Shared → Prop} (R : Ready s.heap N k ls us) (hvs : vs.length = ls.length)
    (hz : IsZip s.heap (N + ls.length + 2) (N + ls.length) (N + ls.length + 1) .none) (hTI : TupN s.heap (N + ls.length) (itv N ls.length)) (hTO : TupN s.heap (N + ls.length + 1) vs)
    (hQ : ∀ h', IsZip h' (N + ls.length + 2) (N + ls.length) (N + ls.length + 1) (rawInt s.heap.objs.size) → (∀ (i : Nat) (l : Addr), ls[i]? = some l → h'.IsTupleIter (N + i) l (k + 1)) → TupN h' s.heap.objs.size us → h'.objs.size = s.heap.objs.size + 1 →
      (∀ c o, (c < N ∨ N + ls.length ≤ c) → c ≠ N + ls.length + 2 → c ≠ N + ls.length + 1 → s.heap.get? c = some o → h'.get? c = some o) → Q (.ref s.heap.objs.size) { s with heap := h' }) :
    wpAny (model prog w) A (Builtin.«zip.__next__» ⟨[.ref (N + ls.length + 2)], []⟩) (fun fin s' => ∃ v, fin = .done (.ret v) ∧ Q v s') E s := by
  show wpAny _ _ (field (.ref (N + ls.length + 2)) 2 >>= _) _ _ _
  refine wpAny_bind (wpAny_field hz rfl (x := .bool false) rfl ?_)
  show wpAny _ _ (field (.ref (N + ls.length + 2)) 3 >>= _) _ _ _
  refine wpAny_bind (wpAny_field hz rfl (x := .ref (N + ls.length)) rfl ?_)
  refine wpAny_bind (wpAny_seqItems hTI rfl ?_)
  have ne : (itv N ls.length).toArray.isEmpty = false := by
    have := R.n0
    rw [List.isEmpty_toArray]
    cases e : itv N ls.length with
    | nil =>
      have := itv_len N ls.length
      rw [e] at this
      simp at this
      omega
    | cons => rfl
  simp only [ne, Bool.false_eq_true, if_false]
  show wpAny _ _ (Builtin.SmallTypes.ownedTupleIsFree (.ref (N + ls.length + 2)) >>= _) _ _ _
  refine wpAny_bind ?_
  unfold Builtin.SmallTypes.ownedTupleIsFree
  refine wpAny_bind (wpAny_field hz rfl (x := .none) rfl (wpAny_pure ?_))
  simp only [if_true]
  refine wpAny_bind (wpAny_rule ?_)
  refine wpAny_bind (wpAny_field hz rfl (x := .ref (N + ls.length + 1)) rfl ?_)
  refine wpAny_bind (wpAny_setField_rec hz (by simp) fun h₁ hz₁ hs₁ => ?_)
  replace hz₁ : IsZip h₁ (N + ls.length + 2) (N + ls.length) (N + ls.length + 1) .ellipsis := hz₁
  refine wpAny_bind ?_
  have nn := R.n1
  have zl : N + ls.length + 2 < s.heap.objs.size := Heap.lt_size hz
  refine wpAny_forIn_list _ (fun rest b s' => b.1 = none ∧ ∃ j h', rest = (itv N ls.length).zipIdx.drop j ∧ j ≤ ls.length ∧ s' = { s with heap := h' } ∧ h'.objs.size = s.heap.objs.size ∧ TupN h' (N + ls.length + 1) (us.take j ++ vs.drop j) ∧
    (∀ (i : Nat) (l : Addr), ls[i]? = some l → h'.IsTupleIter (N + i) l (if i < j then k + 1 else k)) ∧ ∀ c o, (c < N ∨ N + ls.length ≤ c) → c ≠ N + ls.length + 1 → h₁.get? c = some o → h'.get? c = some o) _ (fun x rest b s₁ hI => ?_) (fun b s₁ hI => ?_) _ _
    ⟨rfl, 0, h₁, rfl, Nat.zero_le _, rfl, hs₁.1, hs₁.extBut _ _ (Nat.ne_of_lt (Nat.lt_succ_self _)) hTO, fun i l e => by rw [if_neg (Nat.not_lt_zero _)]; exact (R.it i l e).extBut hs₁.extBut (Nat.ne_of_lt (by have := (List.getElem?_eq_some_iff.mp e).1; omega)), fun c o _ _ e => e⟩
  · obtain ⟨b1, j, h', er, hj, rfl, sz, hto, hit, hk⟩ := hI
    obtain ⟨e1, e2⟩ := cons_drop er
    rw [List.getElem?_zipIdx] at e1
    obtain ⟨y, ey, rfl⟩ := Option.map_eq_some_iff.mp e1
    obtain ⟨hj2, rfl⟩ := itv_get ey
    have el := List.getElem?_eq_getElem hj2
    obtain ⟨xs, u, htu, hxu, huu⟩ := R.tu j ls[j] el
    have lN := R.lt ls[j] (List.getElem_mem hj2)
    refine wpAny_bind (wpAny_onRaise ?_)
    show wpAny _ _ (Builtin.SmallTypes.nextOf (.ref (N + j)) >>= _) _ _ _
    have hi := hit j ls[j] el
    rw [if_neg (Nat.lt_irrefl _)] at hi
    have ln2 : ls[j] < N + ls.length + 2 := Nat.lt_of_lt_of_le lN (by rw [Nat.add_assoc]; exact Nat.le_add_right ..)
    have ln1 : ls[j] < N + ls.length + 1 := Nat.lt_of_lt_of_le lN (by rw [Nat.add_assoc]; exact Nat.le_add_right ..)
    have htu' : h'.IsTuple ls[j] xs := by
      obtain ⟨o, ho, r⟩ := htu
      exact ⟨o, hk _ _ (.inl lN) (Nat.ne_of_lt ln1) (hs₁.extBut _ _ (Nat.ne_of_lt ln2) ho), r⟩
    refine wpAny_bind (nextOf_tuple_item (s := { s with heap := h' }) hi htu' hxu fun h2 hi2 hs2 => wpAny_pure ?_)
    have hto2 : TupN h2 (N + ls.length + 1) (us.take j ++ vs.drop j) := hs2.extBut _ _ (Nat.ne_of_gt (by omega)) hto
    refine wpAny_bind (wpAny_seqItems hto2 rfl ?_)
    refine wpAny_bind (wpAny_updateSeqN hto2 (by rw [List.length_append, List.length_take, List.length_drop, R.ul, hvs]; omega) fun h3 hto3 hs3 => ?_)
    rw [Nat.zero_add, set_row (hvs.trans R.ul.symm) huu] at hto3
    refine wpAny_bind (wpAny_letGo (wpAny_pure ⟨rfl, j + 1, h3, e2, hj2, rfl, (hs3.1.trans hs2.1).trans sz, hto3, fun i l e => ?_, fun c o hc nc e => hs3.extBut _ _ nc (hs2.extBut _ _ (fun z : c = N + j => by have z : (c : Nat) = N + j := z; omega) (hk c o hc nc e))⟩))
    have il := (List.getElem?_eq_some_iff.mp e).1
    by_cases c : i = j
    · subst c
      rw [el] at e
      cases e
      rw [if_pos (Nat.lt_succ_self _)]
      exact hi2.extBut hs3.extBut (Nat.ne_of_lt (by omega))
    · have := ((hit i l e).extBut hs2.extBut (show N + i ≠ N + j by omega)).extBut hs3.extBut (show N + i ≠ N + ls.length + 1 by omega)
      by_cases d : i < j
      · rw [if_pos d] at this
        rw [if_pos (by omega)]
        exact this
      · rw [if_neg d] at this
        rw [if_neg (by omega)]
        exact this
  · obtain ⟨b1, j, h', er, hj, rfl, sz, hto, hit, hk⟩ := hI
    have ej : j = ls.length := by
      have := congrArg List.length er
      rw [List.length_drop, List.length_zipIdx, itv_len] at this
      have h0 : ([] : List (Value × Nat)).length = 0 := rfl
      omega
    subst ej
    rw [List.take_of_length_le (Nat.le_of_eq R.ul), List.drop_of_length_le (Nat.le_of_eq hvs), List.append_nil] at hto
    rw [b1]
    refine wpAny_bind (wpAny_seqItems hto rfl ?_)
    refine wpAny_bind (wpAny_newTuple ?_ (by show us.toArray.toList.length ≤ _; rw [R.ul]; exact Nat.le_trans nn (by decide)))
    show wpAny _ _ (Builtin.SmallTypes.ownedTupleHandOut (.ref (N + ls.length + 2)) (.ref h'.objs.size) >>= _) _ _ _
    refine wpAny_bind ?_
    unfold Builtin.SmallTypes.ownedTupleHandOut
    have hz' : IsZip h' (N + ls.length + 2) (N + ls.length) (N + ls.length + 1) .ellipsis := hk _ _ (.inr (by omega)) (Nat.ne_of_gt (Nat.lt_succ_self _)) hz₁
    have hz₆ : IsZip (h'.push { cls := .type "tuple", data := .seq us.toArray }) (N + ls.length + 2) (N + ls.length) (N + ls.length + 1) .ellipsis := Heap.get?_push_of_some _ hz'
    refine wpAny_bind (wpAny_setField_rec hz₆ (by simp) fun h₇ hz₇ hs₇ => ?_)
    replace hz₇ : IsZip h₇ (N + ls.length + 2) (N + ls.length) (N + ls.length + 1) (rawInt h'.objs.size) := hz₇
    refine wpAny_setField_rec hz₇ (by simp) fun h₈ hz₈ hs₈ => ?_
    replace hz₈ : IsZip h₈ (N + ls.length + 2) (N + ls.length) (N + ls.length + 1) (rawInt h'.objs.size) := hz₈
    have up : ∀ c o, c ≠ N + ls.length + 2 → h'.get? c = some o → h₈.get? c = some o := fun c o c1 e => hs₈.extBut _ _ c1 (hs₇.extBut _ _ c1 (Heap.get?_push_of_some _ e))
    have zl' : N + ls.length + 2 < h'.objs.size := by rw [sz]; exact zl
    have hT₈ : TupN h₈ h'.objs.size us := hs₈.extBut _ _ (Nat.ne_of_gt zl') (hs₇.extBut _ _ (Nat.ne_of_gt zl') (Heap.get?_push_size _ rfl))
    have hz8 : h₈.objs.size = h'.objs.size + 1 := by rw [hs₈.1, hs₇.1, Heap.size_push]
    rw [sz] at hz₈ hT₈ hz8
    refine wpAny_pure ⟨_, rfl, ?_⟩
    show Q (.ref h'.objs.size) _
    rw [sz]
    refine hQ h₈ hz₈ (fun i l e => ?_) hT₈ hz8 fun c o hc n2 n1 e => up c o n2 (hk c o hc n1 (hs₁.extBut _ _ n2 e))
    have il := (List.getElem?_eq_some_iff.mp e).1
    have := hit i l e
    rw [if_pos il] at this
    exact this.at fun o e => up _ o (Nat.ne_of_lt (by omega)) e
theorem itv_cons {N n : Nat} (h : 0 < n) : ∃ rest, itv N n = .ref N :: rest := by
  obtain ⟨m, rfl⟩ : ∃ m, n = m + 1 := ⟨n - 1, by omega⟩
  unfold itv
  rw [List.range_succ_eq_map, List.map_cons]
  exact ⟨_, rfl⟩
theorem endH {N k T : Nat} {f : Bool} {oT : Obj} {ls : List Addr} {l : Addr} {xs : Array Value} {Q : Fin → Shared → Prop} (hh : A.handled = none) (h0 : ls[0]? = some l) (hl : l < N)
    (hz : PySem.IsZipHeld s.heap (N + ls.length + 2) (N + ls.length) (N + ls.length + 1) T f) (hT : s.heap.get? T = some oT) (hTI : TupN s.heap (N + ls.length) (itv N ls.length))
    (hi : s.heap.IsTupleIter N l k) (ht : s.heap.IsTuple l xs) (hend : xs[k]? = none)
    (hE : ∀ h' e, (∀ c o, (c < N ∨ N + ls.length ≤ c) → c ≠ N + ls.length + 2 → c ≠ N + ls.length + 1 → s.heap.get? c = some o → h'.get? c = some o) → (∃ o, h'.get? e = some o ∧ o.cls = .type "StopIteration") → E (.ref e) { s with heap := h' }) :
    wpAny (model prog w) A (Builtin.«zip.__next__» ⟨[.ref (N + ls.length + 2)], []⟩) Q E s := by
  have n0 : 0 < ls.length := (List.getElem?_eq_some_iff.mp h0).1
  show wpAny _ _ (field (.ref (N + ls.length + 2)) 2 >>= _) _ _ _
  refine wpAny_bind (wpAny_field hz rfl (x := .bool false) rfl ?_)
  show wpAny _ _ (field (.ref (N + ls.length + 2)) 3 >>= _) _ _ _
  refine wpAny_bind (wpAny_field hz rfl (x := .ref (N + ls.length)) rfl ?_)
  refine wpAny_bind (wpAny_seqItems hTI rfl ?_)
  obtain ⟨rest, er⟩ := itv_cons (N := N) n0
  rw [er]
  simp only [List.isEmpty_toArray, List.isEmpty_cons, Bool.false_eq_true, if_false]
  show wpAny _ _ (Builtin.SmallTypes.ownedTupleIsFree (.ref (N + ls.length + 2)) >>= _) _ _ _
  refine wpAny_bind (wpAny_tupleHeld_zip hz hT fun h₁ hz₁ hs₁ => ?_)
  simp only [Bool.false_eq_true, if_false]
  refine wpAny_bind ?_
  rw [← Array.forIn_toList]
  simp only [List.forIn_cons]
  refine wpAny_bind (wpAny_bind (wpAny_holding ?_))
  show wpAny _ _ (Builtin.SmallTypes.nextOf (.ref N) >>= _) _ _ _
  refine wpAny_bind (nextOf_tuple_end (s := { s with heap := h₁ }) hh (hi.extBut hs₁.extBut (Nat.ne_of_lt (by omega))) (by
    obtain ⟨o, ho, r⟩ := ht
    exact ⟨o, hs₁.extBut _ _ (Nat.ne_of_lt (Nat.lt_of_lt_of_le hl (by rw [Nat.add_assoc]; exact Nat.le_add_right ..))) ho, r⟩) hend fun h₂ e hs₂ he => ?_)
  exact hE h₂ e (fun c o hc n2 _ x => hs₂ _ _ (fun z : c = N => by have z : (c : Nat) = N := z; omega) (hs₁.extBut _ _ n2 x)) he
theorem endF {N k : Nat} {ls : List Addr} {l : Addr} {xs : Array Value} {Q : Fin → Shared → Prop} (hh : A.handled = none) (h0 : ls[0]? = some l) (hl : l < N)
    (hz : IsZip s.heap (N + ls.length + 2) (N + ls.length) (N + ls.length + 1) .none) (hTI : TupN s.heap (N + ls.length) (itv N ls.length))
    (hi : s.heap.IsTupleIter N l k) (ht : s.heap.IsTuple l xs) (hend : xs[k]? = none)
    (hE : ∀ h' e, (∀ c o, (c < N ∨ N + ls.length ≤ c) → c ≠ N + ls.length + 2 → c ≠ N + ls.length + 1 → s.heap.get? c = some o → h'.get? c = some o) → (∃ o, h'.get? e = some o ∧ o.cls = .type "StopIteration") → E (.ref e) { s with heap := h' }) :
    wpAny (model prog w) A (Builtin.«zip.__next__» ⟨[.ref (N + ls.length + 2)], []⟩) Q E s := by
  have n0 : 0 < ls.length := (List.getElem?_eq_some_iff.mp h0).1
  show wpAny _ _ (field (.ref (N + ls.length + 2)) 2 >>= _) _ _ _
  refine wpAny_bind (wpAny_field hz rfl (x := .bool false) rfl ?_)
  show wpAny _ _ (field (.ref (N + ls.length + 2)) 3 >>= _) _ _ _
  refine wpAny_bind (wpAny_field hz rfl (x := .ref (N + ls.length)) rfl ?_)
  refine wpAny_bind (wpAny_seqItems hTI rfl ?_)
  obtain ⟨rest, er⟩ := itv_cons (N := N) n0
  rw [er]
  simp only [List.isEmpty_toArray, List.isEmpty_cons, Bool.false_eq_true, if_false]
  show wpAny _ _ (Builtin.SmallTypes.ownedTupleIsFree (.ref (N + ls.length + 2)) >>= _) _ _ _
  refine wpAny_bind ?_
  unfold Builtin.SmallTypes.ownedTupleIsFree
  refine wpAny_bind (wpAny_field hz rfl (x := .none) rfl (wpAny_pure ?_))
  simp only [if_true]
  refine wpAny_bind (wpAny_rule ?_)
  refine wpAny_bind (wpAny_field hz rfl (x := .ref (N + ls.length + 1)) rfl ?_)
  refine wpAny_bind (wpAny_setField_rec hz (by simp) fun h₁ hz₁ hs₁ => ?_)
  replace hz₁ : IsZip h₁ (N + ls.length + 2) (N + ls.length) (N + ls.length + 1) .ellipsis := hz₁
  refine wpAny_bind ?_
  simp only [List.zipIdx_cons, List.forIn_cons]
  refine wpAny_bind (wpAny_bind (wpAny_onRaise ?_))
  show wpAny _ _ (Builtin.SmallTypes.nextOf (.ref N) >>= _) _ _ _
  refine wpAny_bind (nextOf_tuple_end (s := { s with heap := h₁ }) hh (hi.extBut hs₁.extBut (Nat.ne_of_lt (by omega))) (by
    obtain ⟨o, ho, r⟩ := ht
    exact ⟨o, hs₁.extBut _ _ (Nat.ne_of_lt (Nat.lt_of_lt_of_le hl (by rw [Nat.add_assoc]; exact Nat.le_add_right ..))) ho, r⟩) hend fun h₂ e hs₂ he => ?_)
  obtain ⟨oe, hoe, hce⟩ := he
  have hz₂ : IsZip h₂ (N + ls.length + 2) (N + ls.length) (N + ls.length + 1) .ellipsis := hs₂ _ _ (Nat.ne_of_gt (by omega)) hz₁
  have hez : e ≠ N + ls.length + 2 := fun x => by subst x; rw [hz₂] at hoe; cases hoe; simp at hce
  refine wpAny_setField_rec hz₂ (by simp) fun h₃ _ hs₃ => hE h₃ e (fun c o hc n2 _ x => hs₃.extBut _ _ n2 (hs₂ _ _ (fun z : c = N => by have z : (c : Nat) = N := z; omega) (hs₁.extBut _ _ n2 x))) ⟨oe, hs₃.extBut _ _ hez hoe, hce⟩
/-- the zip's state: its tuple is free, or out -/
def ZH (h : Heap) (N n : Nat) : Prop := TupN h (N + n) (itv N n) ∧ ((IsZip h (N + n + 2) (N + n) (N + n + 1) .none ∧ ∃ vs : List Value, vs.length = n ∧ TupN h (N + n + 1) vs) ∨
  ∃ T f oT, PySem.IsZipHeld h (N + n + 2) (N + n) (N + n + 1) T f ∧ h.get? T = some oT ∧ N + n + 3 ≤ T)
/-- what a zip's turn leaves alone -/
def Kp (N n c : Nat) : Prop := c < N ∨ c = N + n ∨ N + n + 3 ≤ c
theorem ZH.lt {h : Heap} {N n : Nat} (z : ZH h N n) : N + n + 2 < h.objs.size := by
  obtain ⟨_, ⟨z, _⟩ | ⟨_, _, _, z, _⟩⟩ := z
  · exact Heap.lt_size z
  · exact Heap.lt_size z
theorem next_item {N k : Nat} {ls : List Addr} {us : List Value} {Q : Option Value → Shared → Prop} (R : Ready s.heap N k ls us) (hz : ZH s.heap N ls.length)
    (hQ : ∀ h', ZH h' N ls.length → (∀ (i : Nat) (l : Addr), ls[i]? = some l → h'.IsTupleIter (N + i) l (k + 1)) → TupN h' s.heap.objs.size us → h'.objs.size = s.heap.objs.size + 1 →
      (∀ c o, Kp N ls.length c → s.heap.get? c = some o → h'.get? c = some o) → Q (some (.ref s.heap.objs.size)) { s with heap := h' }) :
    wpAny (model prog w) A (pyNext (.ref (N + ls.length + 2))) Q E s := by
  have zl := hz.lt
  have kp : ∀ c, Kp N ls.length c → (c < N ∨ N + ls.length ≤ c) ∧ c ≠ N + ls.length + 2 ∧ c ≠ N + ls.length + 1 := fun c h => by
    unfold Kp at h
    omega
  obtain ⟨hTI, ⟨hz, vs, hvs, hTO⟩ | ⟨T, f, oT, hz, hT, tl⟩⟩ := hz
  · have hTy : s.TypeIs (.ref (N + ls.length + 2)) "zip" := ⟨_, hz, rfl⟩
    unfold pyNext
    exact wpAny_bind (wpAny_attempt (wpAny_callSpecial?_slot (name := Str.ofString "__next__") hTy F.slot_zip_next
      (wpAny_call_entry F.slot_zip_next hTy F.entry_zip_next
        (itemF R hvs hz hTI hTO fun h' a1 a2 a3 a4 a5 => wpAny_pure (hQ h' ⟨a5 _ _ (.inr (Nat.le_refl _)) (by omega) (by omega) hTI, .inr ⟨_, false, _, a1, a3, by omega⟩⟩ a2 a3 a4 fun c o hc e => a5 c o (kp c hc).1 (kp c hc).2.1 (kp c hc).2.2 e)) (F.args_zip_next_1 _))))
  · have hTy : s.TypeIs (.ref (N + ls.length + 2)) "zip" := ⟨_, hz, rfl⟩
    unfold pyNext
    exact wpAny_bind (wpAny_attempt (wpAny_callSpecial?_slot (name := Str.ofString "__next__") hTy F.slot_zip_next
      (wpAny_call_entry F.slot_zip_next hTy F.entry_zip_next
        (itemH R hz hT hTI fun h' a1 a2 a3 a4 a5 => wpAny_pure (hQ h' ⟨a5 _ _ (.inr (Nat.le_refl _)) (by omega) hTI, .inr ⟨T, true, oT, a1, a5 T oT (.inr (by omega)) (by omega) hT, tl⟩⟩ a2 a3 a4 fun c o hc e => a5 c o (kp c hc).1 (kp c hc).2.1 e)) (F.args_zip_next_1 _))))
theorem next_end {N k : Nat} {ls : List Addr} {l : Addr} {xs : Array Value} {Q : Option Value → Shared → Prop} (hh : A.handled = none) (h0 : ls[0]? = some l) (hl : l < N) (hz : ZH s.heap N ls.length)
    (hi : s.heap.IsTupleIter N l k) (ht : s.heap.IsTuple l xs) (hend : xs[k]? = none)
    (hQ : ∀ h', (∀ c o, Kp N ls.length c → s.heap.get? c = some o → h'.get? c = some o) → Q none { s with heap := h' }) : wpAny (model prog w) A (pyNext (.ref (N + ls.length + 2))) Q E s := by
  have kp : ∀ c, Kp N ls.length c → (c < N ∨ N + ls.length ≤ c) ∧ c ≠ N + ls.length + 2 ∧ c ≠ N + ls.length + 1 := fun c h => by
    unfold Kp at h
    omega
  obtain ⟨hTI, ⟨hz, vs, hvs, hTO⟩ | ⟨T, f, oT, hz, hT, tl⟩⟩ := hz
  · have hTy : s.TypeIs (.ref (N + ls.length + 2)) "zip" := ⟨_, hz, rfl⟩
    unfold pyNext
    refine wpAny_bind (wpAny_attempt (wpAny_callSpecial?_slot (name := Str.ofString "__next__") hTy F.slot_zip_next
      (wpAny_call_entry F.slot_zip_next hTy F.entry_zip_next (endF hh h0 hl hz hTI hi ht hend fun h' e hk he => ?_) (F.args_zip_next_1 _))))
    obtain ⟨o, ho, hc⟩ := he
    refine wpAny_bind (wpAny_isInstance (T := "StopIteration") (b := true) ⟨o, ho, hc⟩ isSubtype_stop ?_)
    exact wpAny_pure (hQ _ fun c o hc e => hk c o (kp c hc).1 (kp c hc).2.1 (kp c hc).2.2 e)
  · have hTy : s.TypeIs (.ref (N + ls.length + 2)) "zip" := ⟨_, hz, rfl⟩
    unfold pyNext
    refine wpAny_bind (wpAny_attempt (wpAny_callSpecial?_slot (name := Str.ofString "__next__") hTy F.slot_zip_next
      (wpAny_call_entry F.slot_zip_next hTy F.entry_zip_next (endH hh h0 hl hz hT hTI hi ht hend fun h' e hk he => ?_) (F.args_zip_next_1 _))))
    obtain ⟨o, ho, hc⟩ := he
    refine wpAny_bind (wpAny_isInstance (T := "StopIteration") (b := true) ⟨o, ho, hc⟩ isSubtype_stop ?_)
    exact wpAny_pure (hQ _ fun c o hc e => hk c o (kp c hc).1 (kp c hc).2.1 (kp c hc).2.2 e)
theorem itv_succ (N j : Nat) : itv N (j + 1) = itv N j ++ [.ref (N + j)] := by
  unfold itv
  rw [List.range_succ, List.map_append]
  rfl
theorem iterAllN {ls : List Addr} {Q : List Value → Shared → Prop} (ht : ∀ l ∈ ls, ∃ xs, s.heap.IsTuple l xs)
    (h : ∀ h', (∀ (i : Nat) (l : Addr), ls[i]? = some l → h'.IsTupleIter (s.heap.objs.size + i) l 0) → h'.objs.size = s.heap.objs.size + ls.length → (∀ c o, s.heap.get? c = some o → h'.get? c = some o) → Q (itv s.heap.objs.size ls.length) { s with heap := h' }) :
    wpAny (model prog w) A (Builtin.SmallTypes.iterAll (ls.map Value.ref)) Q E s := by
  unfold Builtin.SmallTypes.iterAll
  refine wpAny_bind (wpAny_forIn_list _ (fun rest b s' => ∃ j h', rest = (ls.map Value.ref).drop j ∧ j ≤ ls.length ∧ b.toList = itv s.heap.objs.size j ∧ s' = { s with heap := h' } ∧ h'.objs.size = s.heap.objs.size + j ∧
    (∀ (i : Nat) (l : Addr), i < j → ls[i]? = some l → h'.IsTupleIter (s.heap.objs.size + i) l 0) ∧ ∀ c o, s.heap.get? c = some o → h'.get? c = some o) _ (fun x rest b s₁ hI => ?_) (fun b s₁ hI => ?_) _ _
    ⟨0, s.heap, rfl, Nat.zero_le _, rfl, rfl, rfl, fun i l hi => absurd hi (Nat.not_lt_zero _), fun c o e => e⟩)
  · obtain ⟨j, h', er, hj, eb, rfl, sz, hit, hk⟩ := hI
    obtain ⟨e1, e2⟩ := cons_drop er
    rw [List.getElem?_map] at e1
    obtain ⟨l, el, rfl⟩ := Option.map_eq_some_iff.mp e1
    have hj2 := (List.getElem?_eq_some_iff.mp el).1
    obtain ⟨xs, o, ho, r⟩ := ht l (List.mem_of_getElem? el)
    have ht' : h'.IsTuple l xs := ⟨o, hk _ _ ho, r⟩
    refine wpAny_bind (wpAny_holding (wpAny_pyIter_tuple (s := { s with heap := h' }) ht' ?_))
    have hnew : (h'.push { cls := .type "tuple_iterator", data := .fields #[.ref l, .int 0 0] }).IsTupleIter h'.objs.size l 0 := ⟨_, Heap.get?_push_size _ rfl, rfl, rfl⟩
    refine wpAny_pure ⟨j + 1, _, e2, hj2, ?_, rfl, by rw [Heap.size_push, sz]; rfl, fun i l2 hi e => ?_, fun c o e => Heap.get?_push_of_some _ (hk c o e)⟩
    · rw [Array.toList_push, eb, itv_succ, ← sz]
    · by_cases c : i = j
      · subst c
        rw [el] at e
        cases e
        rw [← sz]
        exact hnew
      · exact (hit i l2 (by omega) e).at fun o e => Heap.get?_push_of_some _ e
  · obtain ⟨j, h', er, hj, eb, rfl, sz, hit, hk⟩ := hI
    have ej : j = ls.length := by
      have := congrArg List.length er
      rw [List.length_drop, List.length_map] at this
      have h0 : ([] : List Value).length = 0 := rfl
      omega
    subst ej
    refine wpAny_pure ?_
    rw [eb]
    exact h h' (fun i l e => hit i l (List.getElem?_eq_some_iff.mp e).1 e) sz hk
end
theorem meets_zipN_new (ls : List Addr) :
    Meets (Builtin.«zip.__new__» ⟨.type "zip" :: ls.map Value.ref, []⟩) (fun _ R s => ls.length ≤ 1000 ∧ (∀ l ∈ ls, ∃ xs, s.heap.IsTuple l xs) ∧
      ∀ h', ZH h' s.heap.objs.size ls.length → (∀ (i : Nat) (l : Addr), ls[i]? = some l → h'.IsTupleIter (s.heap.objs.size + i) l 0) → h'.objs.size = s.heap.objs.size + ls.length + 3 → (∀ c o, s.heap.get? c = some o → h'.get? c = some o) →
        R (.ok (.ret (.ref (s.heap.objs.size + ls.length + 2)))) { s with heap := h' }) :=
  .of_wp fun prog w A R s h => by
    obtain ⟨hn, ht, h⟩ := h
    have hsub := sub_zip
    obtain ⟨hp, g, d, tk, os⟩ := s
    wp_walk using iterAllN ht
    intro h' hit sz hk
    dsimp only at h hit sz hk ⊢
    refine wpAny_bind (wpAny_newTuple ?_ (by rw [itv_len]; exact Nat.le_trans hn (by decide)))
    refine wpAny_bind (wpAny_newTuple ?_ (by rw [List.length_map, itv_len]; exact Nat.le_trans hn (by decide)))
    refine wpAny_bind ?_
    show wpAny _ _ (newObj (Value.type "zip") (.fields #[.none, .bool false, .bool false, .ref h'.objs.size, .ref (h'.push { cls := .type "tuple", data := .seq (itv hp.objs.size ls.length).toArray }).objs.size])) _ _ _
    refine wpAny_newObj_type ?_
    dsimp only
    have z1 : (h'.push { cls := .type "tuple", data := .seq (itv hp.objs.size ls.length).toArray }).objs.size = hp.objs.size + ls.length + 1 := by rw [Heap.size_push, sz]
    have z2 : ((h'.push { cls := .type "tuple", data := .seq (itv hp.objs.size ls.length).toArray }).push { cls := .type "tuple", data := .seq (List.map (fun x => Value.none) (itv hp.objs.size ls.length)).toArray }).objs.size = hp.objs.size + ls.length + 2 := by rw [Heap.size_push, z1]
    rw [z2, z1, sz]
    refine wpAny_pure ⟨_, rfl, h _ ⟨?_, .inl ⟨?_, List.map (fun x => Value.none) (itv hp.objs.size ls.length), by rw [List.length_map, itv_len], ?_⟩⟩ (fun i l e => ?_) ?_ fun c o e => ?_⟩
    · refine Heap.get?_push_of_some _ (Heap.get?_push_of_some _ ?_)
      rw [← sz]
      exact Heap.get?_push_size _ rfl
    · rw [← z2]
      exact Heap.get?_push_size _ rfl
    · refine Heap.get?_push_of_some _ ?_
      rw [← z1]
      exact Heap.get?_push_size _ rfl
    · exact (hit i l e).at fun o e => Heap.get?_push_of_some _ (Heap.get?_push_of_some _ (Heap.get?_push_of_some _ e))
    · rw [Heap.size_push, z2]
    · exact Heap.get?_push_of_some _ (Heap.get?_push_of_some _ (Heap.get?_push_of_some _ (hk c o e)))
theorem typeCall_zipN : ∀ ls : List Value, 0 < ls.length → ls.length ≤ 6 → checkTypeCall "zip" ⟨ls, []⟩ = pure ()
  | [], h, _ => absurd h (Nat.lt_irrefl _)
  | [a], _, _ => by kernel_rfl
  | [a, b], _, _ => by kernel_rfl
  | [a, b, c], _, _ => by kernel_rfl
  | [a, b, c, d], _, _ => by kernel_rfl
  | [a, b, c, d, e], _, _ => by kernel_rfl
  | [a, b, c, d, e, f], _, _ => by kernel_rfl
  | _ :: _ :: _ :: _ :: _ :: _ :: _ :: _, _, h => absurd h (by simp)
theorem newCall_zipN : ∀ ls : List Value, 0 < ls.length → ls.length ≤ 6 → checkBuiltinCall "zip.__new__" ⟨.type "zip" :: ls, []⟩ = pure ()
  | [], h, _ => absurd h (Nat.lt_irrefl _)
  | [a], _, _ => by kernel_rfl
  | [a, b], _, _ => by kernel_rfl
  | [a, b, c], _, _ => by kernel_rfl
  | [a, b, c, d], _, _ => by kernel_rfl
  | [a, b, c, d, e], _, _ => by kernel_rfl
  | [a, b, c, d, e, f], _, _ => by kernel_rfl
  | _ :: _ :: _ :: _ :: _ :: _ :: _ :: _, _, h => absurd h (by simp)
theorem init_zipN (obj : Value) : ∀ ls : List Value, 0 < ls.length → ls.length ≤ 6 → argsOk "object.__init__" ⟨obj :: ls, []⟩
  | [], h, _ => absurd h (Nat.lt_irrefl _)
  | [a], _, _ => by unfold argsOk; rw [signature?_of (id := "object.__init__") (n := ['_', '_', 't', 'i', 'n', 'i', '_', '_']) (o := ['t', 'c', 'e', 'j', 'b', 'o']) (by kernel_rfl) F.owner_object]; kernel_rfl
  | [a, b], _, _ => by unfold argsOk; rw [signature?_of (id := "object.__init__") (n := ['_', '_', 't', 'i', 'n', 'i', '_', '_']) (o := ['t', 'c', 'e', 'j', 'b', 'o']) (by kernel_rfl) F.owner_object]; kernel_rfl
  | [a, b, c], _, _ => by unfold argsOk; rw [signature?_of (id := "object.__init__") (n := ['_', '_', 't', 'i', 'n', 'i', '_', '_']) (o := ['t', 'c', 'e', 'j', 'b', 'o']) (by kernel_rfl) F.owner_object]; kernel_rfl
  | [a, b, c, d], _, _ => by unfold argsOk; rw [signature?_of (id := "object.__init__") (n := ['_', '_', 't', 'i', 'n', 'i', '_', '_']) (o := ['t', 'c', 'e', 'j', 'b', 'o']) (by kernel_rfl) F.owner_object]; kernel_rfl
  | [a, b, c, d, e], _, _ => by unfold argsOk; rw [signature?_of (id := "object.__init__") (n := ['_', '_', 't', 'i', 'n', 'i', '_', '_']) (o := ['t', 'c', 'e', 'j', 'b', 'o']) (by kernel_rfl) F.owner_object]; kernel_rfl
  | [a, b, c, d, e, f], _, _ => by unfold argsOk; rw [signature?_of (id := "object.__init__") (n := ['_', '_', 't', 'i', 'n', 'i', '_', '_']) (o := ['t', 'c', 'e', 'j', 'b', 'o']) (by kernel_rfl) F.owner_object]; kernel_rfl
  | _ :: _ :: _ :: _ :: _ :: _ :: _ :: _, _, h => absurd h (by simp)
section
variable {prog : Program} {w : World} {A : Around} {E : Value → Shared → Prop} {s : Shared}
theorem call_zipN {ls : List Addr} {Q : Value → Shared → Prop} (n0 : 0 < ls.length) (n6 : ls.length ≤ 6) (ht : ∀ l ∈ ls, ∃ xs, s.heap.IsTuple l xs)
    (h : ∀ h', ZH h' s.heap.objs.size ls.length → (∀ (i : Nat) (l : Addr), ls[i]? = some l → h'.IsTupleIter (s.heap.objs.size + i) l 0) → h'.objs.size = s.heap.objs.size + ls.length + 3 → (∀ c o, s.heap.get? c = some o → h'.get? c = some o) →
      Q (.ref (s.heap.objs.size + ls.length + 2)) { s with heap := h' }) :
    wpAny (model prog w) A (call (.type "zip") (ls.map Value.ref)) Q E s := by
  have l0 : 0 < (ls.map Value.ref).length := by rw [List.length_map]; exact n0
  have l6 : (ls.map Value.ref).length ≤ 6 := by rw [List.length_map]; exact n6
  refine callType_new F.called_zip (by decide) (typeCall_zipN _ l0 l6) (newCall_zipN _ l0 l6) (fun obj => init_zipN obj _ l0 l6) F.entry_zip_new (meets_zipN_new ls) ⟨by omega, ht, fun h' a1 a2 a3 a4 => ?_⟩
  show _ ∧ _
  obtain ⟨_, ⟨z, _⟩ | ⟨_, _, _, z, _⟩⟩ := id a1
  · exact ⟨⟨_, z, rfl⟩, h h' a1 a2 a3 a4⟩
  · exact ⟨⟨_, z, rfl⟩, h h' a1 a2 a3 a4⟩
end
end ZipN

set_option Elab.async false
set_option linter.all false
set_option maxRecDepth 100000
set_option maxHeartbeats 2000000
/-! list(zip(*t)), t a tuple of tuples of one length: the rule -/
namespace ZipN
open PySem PySem.Spec PyProof.Rows L2 RZ ZipL
/-- tuples of one length -/
def Rw (K : PySem.W.Frag) (H : Hp) (m : Nat) : List Addr → List (List V) → Prop
  | [], [] => True
  | a :: as, v :: vs => (SqT K H a v ∧ v.length = m) ∧ Rw K H m as vs
  | _, _ => False
theorem Rw.len {K : PySem.W.Frag} {H : Hp} {m : Nat} : ∀ {as : List Addr} {vss : List (List V)}, Rw K H m as vss → as.length = vss.length
  | [], [], _ => rfl
  | a :: as, v :: vs, h => congrArg (· + 1) (Rw.len h.2)
theorem sqT_same {K : PySem.W.Frag} {H H' : Hp} (s : ∀ b o, H b = some o → H' b = some o) {a : Addr} {v : List V} (h : SqT K H a v) : SqT K H' a v := by
  rcases h with (h | ⟨u, h⟩) | h
  · exact .inl (.inl (s _ _ h))
  · exact .inl (.inr ⟨u, s _ _ h⟩)
  · exact .inr h
theorem Rw.same {K : PySem.W.Frag} {H H' : Hp} {m : Nat} (s : ∀ b o, H b = some o → H' b = some o) : ∀ {as : List Addr} {vss : List (List V)}, Rw K H m as vss → Rw K H' m as vss
  | [], [], _ => True.intro
  | a :: as, v :: vs, h => ⟨⟨sqT_same s h.1.1, h.1.2⟩, Rw.same s h.2⟩
abbrev colN (vss : List (List V)) (j : Nat) : List V := vss.map fun v => v.getD j .non
def ColsN (H : Hp) (vss : List (List V)) (ts : List Addr) : Prop := ∀ (j : Nat) (t : Addr), ts[j]? = some t → H t = some (.tup (colN vss j))
section
variable {X : Cx} {pins : List (Addr × Obj)} {σ : L2.St} {H : Hp} {s : Shared}
theorem Rw.us (I : Inv X pins σ H s) {m k : Nat} (hk : k < m) : ∀ {as : List Addr} {vss : List (List V)}, Rw X.K H m as vss → ∃ us : List Value, Vals (colN vss k) us ∧ us.length = as.length ∧
    ∀ (i : Nat) (l : Addr), as[i]? = some l → ∃ (xs : Array Value) (u : Value), s.heap.IsTuple l xs ∧ xs[k]? = some u ∧ us[i]? = some u
  | [], [], _ => ⟨[], .nil, rfl, fun i l e => by cases e⟩
  | a :: as, v :: vs, h => by
    obtain ⟨us, h1, h2, h3⟩ := Rw.us I hk h.2
    obtain ⟨its, rv, p, _⟩ := I.tuple h.1.1
    have hv : k < v.length := by rw [h.1.2]; exact hk
    obtain ⟨u, hu, ru⟩ := rv.get (List.getElem?_eq_getElem hv)
    refine ⟨u :: us, .cons ?_ h1, congrArg (· + 1) h2, fun i l e => ?_⟩
    · show RelV (v.getD k .non) u
      rw [List.getD_eq_getElem?_getD, List.getElem?_eq_getElem hv]
      exact ru
    · cases i with
      | zero =>
        cases e
        exact ⟨_, u, p, by simpa using hu, rfl⟩
      | succ i => exact h3 i l e
theorem Rw.first (I : Inv X pins σ H s) {m : Nat} {as : List Addr} {vss : List (List V)} {l : Addr} (h : Rw X.K H m as vss) (e : as[0]? = some l) : ∃ xs : Array Value, s.heap.IsTuple l xs ∧ xs.size = m := by
  cases as with
  | nil => cases e
  | cons a as =>
    cases vss with
    | nil => exact absurd h id
    | cons v vs =>
      cases e
      obtain ⟨its, rv, p, _⟩ := I.tuple h.1.1
      exact ⟨_, p, by rw [List.size_toArray, ← rv.length]; exact h.1.2⟩
theorem zipN_loop (hc : X.calm = true) {N S m : Nat} {A : Around} {R : Result → Shared → Prop} {res : Value} (hA : A.handled = none) {as : List Addr} {vss : List (List V)} (n0 : 0 < as.length) (n1 : as.length ≤ 1000) (hm : m ≤ 1000) (hS : N + as.length + 3 ≤ S) (hlt : ∀ l ∈ as, l < N) :
    ∀ (k i : Nat) (H : Hp) (s : Shared) (acc : Array Value) (c : Nat) (ts : List Addr), m - i = k → i ≤ m → Inv X pins σ H s → Rw X.K H m as vss → ZH s.heap N as.length → (∀ (i' : Nat) (l : Addr), as[i']? = some l → s.heap.IsTupleIter (N + i') l i) →
      (∀ b, (N ≤ b ∧ b < N + as.length + 3) ∨ b = S → FpOk X pins H b) → s.heap.get? S = some (ZipL.lo acc c) → acc.toList = ts.map Value.ref → ts.length = i → ColsN H vss ts →
      (∀ H' s' (acc' : Array Value) (c' : Nat) (ts' : List Addr), (∀ b o, H b = some o → H' b = some o) → Inv X pins σ H' s' → FpOk X pins H' S → s'.heap.get? S = some (ZipL.lo acc' c') → acc'.toList = ts'.map Value.ref → ts'.length = m → ColsN H' vss ts' → R (.ok (.ret res)) s') →
      codeAny (model X.prog X.w) A (.builtin "list.extend.loop" ⟨[.ref S, .ref (N + as.length + 2), res], []⟩) R s := by
  have nkp : ∀ b, b ∉ (List.range (as.length + 3)).map (N + ·) → Kp N as.length b := fun b h => by
    unfold Kp
    by_cases c : b < N
    · exact .inl c
    · by_cases d : N + as.length + 3 ≤ b
      · exact .inr (.inr d)
      · exact absurd (List.mem_map.mpr ⟨b - N, List.mem_range.mpr (by omega), by omega⟩) h
  have inr : ∀ b, b ∈ (List.range (as.length + 3)).map (N + ·) → N ≤ b ∧ b < N + as.length + 3 := fun b h => by
    obtain ⟨j, hj, rfl⟩ := List.mem_map.mp h
    have := List.mem_range.mp hj
    omega
  intro k
  induction k with
  | zero =>
    intro i H s acc c ts hk hi I hR' hz hit hf hSl hacc hts hcol hR
    have him : i = m := by omega
    have h0 := List.getElem?_eq_getElem n0
    obtain ⟨xs, p, hsz⟩ := hR'.first I h0
    refine codeAny_builtin F.entry_extend_loop ?_
    rw [Around.under_plainId F.plain_extend_loop _]
    show wpAny _ A.in1 (pyNext (.ref (N + as.length + 2)) >>= _) _ _ s
    refine wpAny_bind (next_end hA h0 (hlt _ (List.getElem_mem n0)) hz (hit 0 _ h0) p (Array.getElem?_eq_none (by omega)) fun h' hkk => ?_)
    refine wpAny_pure (show R (.ok (.ret res)) { s with heap := h' } from hR H _ acc c ts (fun _ _ e => e) (I.turnedL (t' := s.toks) (ch := (List.range (as.length + 3)).map (N + ·)) (fun c o hb q => hkk c o (nkp c hb) q) fun w hw => hf w (.inl (inr w hw))) (hf S (.inr rfl)) ?_ hacc (by omega) hcol)
    exact hkk S _ (.inr (.inr hS)) hSl
  | succ k ih =>
    intro i H s acc c ts hk hi I hR' hz hit hf hSl hacc hts hcol hR
    have hlt1 : i < m := by omega
    obtain ⟨us, rus, ul, htu⟩ := hR'.us I hlt1
    refine codeAny_builtin F.entry_extend_loop ?_
    rw [Around.under_plainId F.plain_extend_loop _]
    show wpAny _ A.in1 (pyNext (.ref (N + as.length + 2)) >>= _) _ _ s
    refine wpAny_bind (next_item (us := us) ⟨n0, n1, hlt, ul, hit, htu⟩ hz fun h' hz' hit' hT hsz hkk => ?_)
    have hSl' : h'.get? S = some (ZipL.lo acc c) := hkk S _ (.inr (.inr hS)) hSl
    have accSz : acc.size = i := by
      rw [← Array.length_toList, hacc, List.length_map, hts]
    show wpAny _ A.in1 (updateSeq S (·.push (.ref s.heap.objs.size)) >>= _) _ _ _
    refine wpAny_bind ?_
    refine wpAny_updateSeq hSl' rfl (wpAny_pure ⟨plainId_quiet F.plain_extend_loop _, ?_⟩) (Nat.le_trans (by omega) (show 1000 ≤ sizeLine by decide)) (Nat.le_trans (by rw [Array.size_push]; omega) (show 1000 ≤ sizeLine + 1 by decide))
    have Slt : S < s.heap.objs.size := Heap.lt_size hSl
    have zlt := hz.lt
    have up : ∀ w o, w ≠ S → h'.get? w = some o → (h'.update S (Obj.mapSeq (·.push (.ref s.heap.objs.size)))).get? w = some o := fun w o nw q => (Heap.get?_update_other _ _ (Ne.symm nw)).trans q
    have nST : s.heap.objs.size ≠ S := Nat.ne_of_gt Slt
    have vl : (colN vss i).length ≤ sizeLine := by
      rw [List.length_map, ← hR'.len]
      exact Nat.le_trans n1 (by decide)
    have new : ObjOk X.prog X.w (upd H s.heap.objs.size (.tup (colN vss i))) (h'.update S (Obj.mapSeq (·.push (.ref s.heap.objs.size)))) s.heap.objs.size (.tup (colN vss i)) :=
      ⟨vl, us, rus, ⟨_, up _ _ nST hT, rfl, _, rfl⟩⟩
    have I1 : Inv X pins σ (upd H s.heap.objs.size (.tup (colN vss i))) { s with heap := h'.update S (Obj.mapSeq (·.push (.ref s.heap.objs.size))) } :=
      I.turnedNew (t' := s.toks) (ch := S :: (List.range (as.length + 3)).map (N + ·)) (fun c o hb q => up c o (fun z => hb (z ▸ List.mem_cons_self)) (hkk c o (nkp c fun z => hb (List.mem_cons_of_mem _ z)) q)) (fun w hw => by
        rcases List.mem_cons.mp hw with rfl | hw
        · exact hf w (.inr rfl)
        · exact hf w (.inl (inr w hw))) (Nat.le_refl _) new
    have nT : H s.heap.objs.size = none := I.hok.fresh (Nat.le_refl _)
    have sm : ∀ b o, H b = some o → upd H s.heap.objs.size (.tup (colN vss i)) b = some o := fun b o e => by
      rw [upd_ne (ne_of_none e nT)]
      exact e
    have neS : ∀ b : Nat, b < N + as.length + 3 → b ≠ S := fun b hb => Nat.ne_of_lt (Nat.lt_of_lt_of_le hb hS)
    refine ih (i + 1) _ _ (acc.push (.ref s.heap.objs.size)) _ (ts ++ [s.heap.objs.size]) (by omega) hlt1 I1 (hR'.same sm) ?_ (fun i' l e => (hit' i' l e).at fun o q => up _ _ (neS _ (by have := (List.getElem?_eq_some_iff.mp e).1; omega)) q) (fun w hw => fpOk_upd (hf w hw) ?_) (Heap.get?_update_self _ hSl' rfl) ?_ ?_ ?_ ?_
    · obtain ⟨q0, ⟨q1, vs, q2, q3⟩ | ⟨T, f, oT, q1, q2, tl⟩⟩ := hz'
      · exact ⟨up _ _ (neS _ (by omega)) q0, .inl ⟨up _ _ (neS _ (by omega)) q1, vs, q2, up _ _ (neS _ (by omega)) q3⟩⟩
      · by_cases c : T = S
        · exact ⟨up _ _ (neS _ (by omega)) q0, .inr ⟨T, f, _, up _ _ (neS _ (by omega)) q1, by rw [c]; exact Heap.get?_update_self _ hSl' rfl, tl⟩⟩
        · exact ⟨up _ _ (neS _ (by omega)) q0, .inr ⟨T, f, oT, up _ _ (neS _ (by omega)) q1, up _ _ c q2, tl⟩⟩
    · rcases hw with hw | hw
      · exact Nat.ne_of_lt (by omega)
      · rw [hw]
        exact Nat.ne_of_lt Slt
    · rw [Array.toList_push, hacc, List.map_append]
      rfl
    · rw [List.length_append, hts]
      rfl
    · intro j t hj
      by_cases c : j < ts.length
      · rw [List.getElem?_append_left c] at hj
        exact sm _ _ (hcol j t hj)
      · have hj2 := (List.getElem?_eq_some_iff.mp hj).1
        rw [List.length_append] at hj2
        have : [s.heap.objs.size].length = 1 := rfl
        have ej : j = i := by omega
        subst ej
        rw [← hts, List.getElem?_append_right (Nat.le_refl _), Nat.sub_self] at hj
        have ht : t = s.heap.objs.size := (Option.some.inj hj).symm
        rw [ht]
        exact upd_same
    · intro H' s' acc' c' ts' q1 q2 q3 q4 q5 q6 q7
      exact hR H' s' acc' c' ts' (fun b o e => q1 b o (sm b o e)) q2 q3 q4 q5 q6 q7
theorem ZH.keep {h h' : Heap} {N n : Nat} (z : ZH h N n) (k : ∀ b o, h.get? b = some o → h'.get? b = some o) : ZH h' N n := by
  obtain ⟨q0, ⟨q1, vs, q2, q3⟩ | ⟨T, f, oT, q1, q2, tl⟩⟩ := z
  · exact ⟨k _ _ q0, .inl ⟨k _ _ q1, vs, q2, k _ _ q3⟩⟩
  · exact ⟨k _ _ q0, .inr ⟨T, f, oT, k _ _ q1, k _ _ q2, tl⟩⟩
/-- a zip of tuples, made and not begun -/
def ZMadeN (X : Cx) (pins : List (Addr × Obj)) (H : Hp) (m : Nat) (as : List Addr) (vss : List (List V)) (u : Value) (s : Shared) : Prop :=
  ∃ N, u = .ref (N + as.length + 2) ∧ ZH s.heap N as.length ∧ IsZip s.heap (N + as.length + 2) (N + as.length) (N + as.length + 1) .none ∧ (∀ (i : Nat) (l : Addr), as[i]? = some l → s.heap.IsTupleIter (N + i) l 0) ∧ Rw X.K H m as vss ∧ (∀ l ∈ as, l < N) ∧ ∀ b, N ≤ b → b < N + as.length + 3 → FpOk X pins H b
theorem call_list_zipN (hc : X.calm = true) {u : Value} {m : Nat} {as : List Addr} {vss : List (List V)} {A : Around} {Q' : Value → Shared → Prop} {E : Value → Shared → Prop} (hA : A.handled = none) (I : Inv X pins σ H s) (n0 : 0 < as.length) (n1 : as.length ≤ 1000) (hm : m ≤ 1000) (h : ZMadeN X pins H m as vss u s)
    (hQ : ∀ S s' H' ts, (∀ b o, H b = some o → H' b = some o) → ts.length = m → ColsN H' vss ts → H' S = none → Inv X pins σ (upd H' S (.lst (ts.map V.ref))) s' → Q' (.ref S) s') :
    wpAny (model X.prog X.w) A (call (.type "list") [u]) Q' E s := by
  obtain ⟨N, rfl, hz, hz0, hit, hR, hlt, hf⟩ := h
  have zl := hz.lt
  have hSz : s.heap.objs.size ≠ N + as.length + 2 := Nat.ne_of_gt zl
  refine callType_codes (Q₁ := fun obj s₁ => obj = .ref s.heap.objs.size ∧ s₁ = { s with heap := s.heap.push { cls := .type "list", data := .seq #[] } }) F.called_list (F.typeCall_list_1 _) F.entry_list_init
    (code_list_new _ ⟨rfl, rfl⟩) fun obj s₁ h₁ => ?_
  obtain ⟨rfl, rfl⟩ := h₁
  have hS : (s.heap.push { cls := .type "list", data := .seq #[] }).get? s.heap.objs.size = some { cls := .type "list", data := .seq #[] } := Heap.get?_push_size _ rfl
  refine ⟨⟨_, hS, rfl⟩, F.args_list_init_2 _ _, ?_⟩
  show wpAny _ A.in1.in1 (do let old ← Builtin.List.listItems (.ref s.heap.objs.size); Builtin.List.listUpdate (.ref s.heap.objs.size) (fun _ => #[]); letGo old.toList.reverse; Builtin.List.listExtendWith (.ref s.heap.objs.size) (.ref (N + as.length + 2)) .none) _ _ _
  refine wpAny_bind ?_
  unfold Builtin.List.listItems
  refine wpAny_bind (wpAny_seqItems hS rfl (wpAny_pure ?_))
  show wpAny _ A.in1.in1 (updateSeq s.heap.objs.size (fun _ => #[]) >>= fun _ => letGo (#[] : Array Value).toList.reverse >>= fun _ => Builtin.List.listExtendWith (.ref s.heap.objs.size) (.ref (N + as.length + 2)) .none) _ _ _
  refine wpAny_bind (wpAny_updateSeq hS rfl ?_)
  have hS2 := Heap.get?_update_self (Obj.mapSeq (fun _ => (#[] : Array Value))) hS rfl
  refine wpAny_bind (wpAny_letGo ?_)
  unfold Builtin.List.listExtendWith
  have up : ∀ (h : Heap) (f : Obj → Obj), (∀ b o, s.heap.get? b = some o → h.get? b = some o) → ∀ b o, s.heap.get? b = some o → (h.update s.heap.objs.size f).get? b = some o := fun h f q b o e =>
    (Heap.get?_update_other _ _ (Ne.symm (Nat.ne_of_lt (Heap.lt_size e)))).trans (q b o e)
  have k1 : ∀ b o, s.heap.get? b = some o → (s.heap.push { cls := .type "list", data := .seq #[] }).get? b = some o := fun b o e => Heap.get?_push_of_some _ e
  have k2 := up _ (Obj.mapSeq (fun _ => (#[] : Array Value))) k1
  have gty : ∀ {h : Heap}, (∀ b o, s.heap.get? b = some o → h.get? b = some o) → Shared.TypeIs { s with heap := h } (.ref (N + as.length + 2)) "zip" := fun {h} q => ⟨_, q _ _ hz0, rfl⟩
  refine wpAny_bind (wpAny_typeOf (gty k2) ?_)
  have e1 : Builtin.List.listSameRef (.ref s.heap.objs.size) (.ref (N + as.length + 2)) = false := by
    simp only [Builtin.List.listSameRef, beq_eq_false_iff_ne]
    exact hSz
  have e2 : (Value.type "zip" == Value.type "list") = false := by decide
  have e3 : (Value.type "zip" == Value.type "tuple") = false := by decide
  simp only [e1, e2, e3, Bool.or_false, Bool.false_eq_true, if_false]
  refine wpAny_bind (wpAny_pyIter_zip (s := { s with heap := _ }) (z := N + as.length + 2) (TI := N + as.length) (TO := N + as.length + 1) (f0 := .none) (k2 _ _ hz0) ?_)
  refine wpAny_bind (wpAny_holding ?_)
  unfold Builtin.List.listLengthHint
  refine wpAny_bind (wpAny_specialOf (gty k2) nolen_zip ?_)
  show wpAny _ A.in1.in1 (specialOf (Value.ref (N + as.length + 2)) (Str.ofString "__length_hint__") >>= _) _ _ _
  refine wpAny_bind (wpAny_specialOf (gty k2) nohint_zip ?_)
  refine wpAny_pure ?_
  show wpAny _ A.in1.in1 (rule "list.extend.makes-room" >>= fun _ => Builtin.List.listTouch (.ref s.heap.objs.size) >>= fun _ =>
    again (.builtin "list.extend.loop" ⟨[.ref s.heap.objs.size, .ref (N + as.length + 2), .none], []⟩)) _ _ _
  refine wpAny_bind (wpAny_rule ?_)
  refine wpAny_bind ?_
  show wpAny _ A.in1.in1 (updateSeq s.heap.objs.size (·.push .none) >>= fun _ => updateSeq s.heap.objs.size (·.pop)) _ _ _
  refine wpAny_bind (wpAny_updateSeq hS2 rfl ?_)
  have hS3 := Heap.get?_update_self (Obj.mapSeq (·.push Value.none)) hS2 rfl
  refine wpAny_updateSeq (hz := by seq_fits) hS3 rfl ?_
  have hS4 := Heap.get?_update_self (Obj.mapSeq (·.pop)) hS3 rfl
  have k4 := up _ (Obj.mapSeq (·.pop)) (up _ (Obj.mapSeq (·.push Value.none)) k2)
  refine wpAny_pure ⟨plainId_quiet F.plain_extend_loop _, ?_⟩
  refine zipN_loop hc (A := A.in1) (pins := pins) (σ := σ) (S := s.heap.objs.size) hA n0 n1 hm zl hlt m 0 H _ #[] _ [] rfl (Nat.zero_le _) (I.kept (t' := s.toks) k4) hR (hz.keep k4) (fun i' l e => (hit i' l e).at fun o e => k4 _ o e) ?_ hS4 rfl rfl (fun j t e => (nomatch e)) ?_
  · intro w hw
    rcases hw with ⟨h1, h2⟩ | rfl
    · exact hf w h1 h2
    · exact I.fpOk (Nat.le_refl _) (I.hok.fresh (Nat.le_refl _))
  · intro H' s' acc' c' ts' q1 I' q2 q3 q4 q5 q6
    refine ⟨rfl, hQ _ s' H' ts' q1 q5 q6 q2.1 (adopt I' q2 q3 ?_ ?_)⟩
    · rw [q4]
      exact vals_refsZ ts'
    · rw [List.length_map, q5]
      exact Nat.le_trans hm (by decide)
end
theorem vals_refs_eq : ∀ {as : List Addr} {us : List Value}, Vals (as.map V.ref) us → us = as.map Value.ref
  | [], _, .nil => rfl
  | a :: as, _, .cons r t => by
    cases r
    rw [vals_refs_eq t]
    rfl
theorem Rw.tup {X : Cx} {pins : List (Addr × Obj)} {σ : L2.St} {H : Hp} {s : Shared} (I : Inv X pins σ H s) {m : Nat} : ∀ {as : List Addr} {vss : List (List V)}, Rw X.K H m as vss → ∀ l ∈ as, ∃ xs, s.heap.IsTuple l xs
  | [], [], _, l, hl => absurd hl List.not_mem_nil
  | a :: as, v :: vs, h, l, hl => by
    rcases List.mem_cons.mp hl with rfl | hl
    · obtain ⟨its, rv, p, _⟩ := I.tuple h.1.1
      exact ⟨_, p⟩
    · exact Rw.tup I h.2 l hl
def tZipN (K : PySem.W.Frag) (te : TE) : TE := fun σ H Q => te σ H fun x H1 => ∃ (p : Addr) (m : Nat) (as : List Addr) (vss : List (List V)), x = V.ref p ∧ SqT K H1 p (as.map V.ref) ∧ Rw K H1 m as vss ∧ 0 < as.length ∧ as.length ≤ 6 ∧ m ≤ 1000 ∧
  ∀ (S : Addr) (H' : Hp) (ts : List Addr), (∀ b o, H1 b = some o → H' b = some o) → ts.length = m → ColsN H' vss ts → H' S = none → Q (.ref S) (upd H' S (.lst (ts.map V.ref)))
section
variable {X : Cx} {e : Expr} {te : TE} {p p2 sp pos pos2 : Pos}
theorem pe_listZipN (hc : X.calm = true) (he : PE X e te) (hgl : Gl X "list") (hml : X.mg "list" = none) (hgz : Gl X "zip") (hmz : X.mg "zip" = none)
    (hst : starEach [.Starred e sp] X.env = [(true, eval e X.env)] := by rfl)
    (hs : starEach [.Call (.Name "zip" p2) [.Starred e sp] [] pos2] X.env = (false, eval (.Call (.Name "zip" p2) [.Starred e sp] [] pos2) X.env) :: starEach [] X.env := by rfl) :
    PE X (.Call (.Name "list" p) [.Call (.Name "zip" p2) [.Starred e sp] [] pos2] [] pos) (tZipN X.K te) := by
  refine ⟨fun pins s σ H Q I hq => ?_⟩
  refine wpAny_Call_Name_kw (ld_blt I hgl hml (show bootBuiltins "list" = some (.type "list") by decide +kernel) ?_ (by decide) (by decide))
  refine PyProof.Rows.callWith_type1 ?_ hs rfl
  rw [hs]
  show wpAny _ _ (spliced ((false, eval (.Call (.Name "zip" p2) [.Starred e sp] [] pos2) X.env) :: backTo pos (starEach [] X.env))) _ _ s
  refine Calls.spliced_cons (wpAny_mono (Q := fun u s' => ∃ H1 m as vss, Inv X pins σ H1 s' ∧ ZMadeN X pins H1 m as vss u s' ∧ 0 < as.length ∧ as.length ≤ 6 ∧ m ≤ 1000 ∧ ∀ (S : Addr) (H' : Hp) (ts : List Addr), (∀ b o, H1 b = some o → H' b = some o) → ts.length = m → ColsN H' vss ts → H' S = none → Q (.ref S) (upd H' S (.lst (ts.map V.ref)))) ?_ (fun u s1 ⟨H1, m, as, vss, I1, hZ, n0, n6, hm, q⟩ => ?_) fun _ _ x => x)
  · refine wpAny_Call_Name_kw (ld_blt I hgz hmz PyProof.Rows.boot_zip ?_ (by decide) (by decide))
    show wpAny _ _ (callWith pos2 (.type "zip") [] (backTo pos2 (starEach [.Starred e sp] X.env)) []) _ _ s
    rw [hst]
    refine PySem.W.ks_call (P := fun _ => True) rfl (fun h _ => ⟨.machine, .inr (.inl rfl), PySem.W.Looks.now⟩) (PySem.W.ks_lone ?_)
    refine thn (he.run pins s σ H _ I hq) fun v s1 ⟨x, H1, I1, rx, q⟩ => ?_
    obtain ⟨pp, m, as, vss, rfl, hp, hR, n0, n6, hm, q⟩ := q
    obtain rfl : v = Value.ref pp := rx
    refine StX.star_any I1 (.inl hp) fun us s2 I2 rv => ⟨trivial, ?_⟩
    obtain rfl := vals_refs_eq rv
    refine call_zipN (ls := as) n0 n6 (hR.tup I2) fun h' hz hit hsz hk => ?_
    refine ⟨H1, m, as, vss, I2.kept (t' := s2.toks) hk, ⟨s2.heap.objs.size, rfl, hz, ?_, hit, hR, fun l hl => ?_, fun b h1 h2 => I2.fpOk h1 (I2.hok.fresh h1)⟩, n0, n6, hm, q⟩
    · obtain ⟨_, ⟨z, _⟩ | ⟨T, f, oT, q1, q2, tl⟩⟩ := hz
      · exact z
      · exfalso
        exact absurd (Heap.lt_size q2) (Nat.not_lt.mpr (by rw [hsz]; exact tl))
    · obtain ⟨xs, o, ho, _⟩ := hR.tup I2 l hl
      exact Heap.lt_size ho
  · refine Calls.spliced_nil ?_
    refine call_list_zipN hc (I1.ok.hd hc) I1 n0 (by omega) hm hZ fun S s' H' ts h1 h2 h3 h4 I' => ?_
    exact ⟨.ref S, _, I', rfl, q S H' ts h1 h2 h3 h4⟩
end
end ZipN

set_option Elab.async false
set_option linter.all false
set_option maxRecDepth 100000
set_option maxHeartbeats 2000000
/-! next(.. for .. in .. if .., default) -/
namespace GenNx
open PySem PySem.Spec PyProof.Rows L2 GxR EnumT
section
variable {prog : Program} {w : World} {A : Around} {E : Value → Shared → Prop} {s : Shared} {I : Addr} {fp wr : List Addr} {G : Array GenState → Array GenState → Prop} {n : Nat} {Pv : Nat → Value → Prop} {St : Nat → Shared → Prop}
/-- next(generator, default): the first item, or the default -/
theorem call_next_walkS {d : Value} {Q : Value → Shared → Prop} (W : WalksS prog w A.in1 I fp wr G n Pv St) (hT : s.TypeIs (.ref I) "generator") (st : St 0 s)
    (h1 : ∀ v s', 0 < n → Pv 0 v → Moved wr G s s' → Q v s') (h2 : ∀ s', n = 0 → Moved wr G s s' → Q d s') : wpAny (model prog w) A (call (.builtin "next") [.ref I, d]) Q E s := by
  refine Calls.call_function_entry (by decide +kernel) (by decide +kernel) PySem.W.kdk_entry_next (PySem.W.kdk_args_next2 _ _) ?_
  unfold Builtin.«next»
  refine wpAny_bind (m := someArgs "next" 1 2 _) (wpAny_of_eq (a := [Value.ref I, d]) (by first | rfl | kernel_rfl!) ?_)
  dsimp only
  refine wpAny_bind (wpAny_specialOf (name := Str.ofString "__next__") hT slot_gen_next.lookup ?_)
  refine wpAny_ite_split (fun hab => absurd hab (by decide)) (fun _ => ?_)
  by_cases hn : 0 < n
  · refine wpAny_bind (W.item 0 _ _ _ hn st fun v s' hv _ hm => ?_)
    exact wpAny_pure ⟨_, rfl, h1 v s' hn hv hm⟩
  · have e : n = 0 := by omega
    refine wpAny_bind (W.done _ _ _ (by rw [e]; exact st) fun s' hm => ?_)
    exact wpAny_pure ⟨_, rfl, h2 s' e hm⟩
end
/-- the generator expression's own scope: its names xa, xb -/
structure GenS2 (env : Env) (scope : Scope) (xa xb : Str) : Prop where
  kind : scope.kind = .function
  co : scope.isCoroutine = false
  cell : ∀ y ∈ scope.names, y.2 ≠ .cell
  dot : scope.names.lookup (".0" : Str) = some NameKind.local
  la : scope.names.lookup xa = some .local
  lb : scope.names.lookup xb = some .local
  ab : xa ≠ xb
  free : ∀ y ∈ scope.names, y.2 = .free → ∃ c, env.cells.lookup y.1 = some c
theorem GenS2.of {env : Env} {scope : Scope} {xa xb : Str} (h1 : scope.kind = .function) (h2 : scope.isCoroutine = false) (h3 : ∀ y ∈ scope.names, y.2 ≠ .cell ∧ y.2 ≠ .free) (h4 : scope.names.lookup (".0" : Str) = some NameKind.local) (h5 : scope.names.lookup xa = some .local) (h6 : scope.names.lookup xb = some .local) (h7 : xa ≠ xb) : GenS2 env scope xa xb :=
  ⟨h1, h2, fun y hy => (h3 y hy).1, h4, h5, h6, h7, fun y hy z => absurd z (h3 y hy).2⟩
theorem genS_of {env : Env} {scope : Scope} {x : Str} (h1 : scope.kind = .function) (h2 : scope.isCoroutine = false) (h3 : ∀ y ∈ scope.names, y.2 ≠ .cell ∧ y.2 ≠ .free) (h4 : scope.names.lookup (".0" : Str) = some NameKind.local) (h5 : scope.names.lookup x = some .local) : GxR.GenS env scope x :=
  ⟨h1, h2, fun y hy => (h3 y hy).1, h4, h5, fun y hy z => absurd z (h3 y hy).2⟩
/-- a test of the int in x -/
def TestI (prog : Program) (w : World) (scope : Scope) (x : Str) (c : Expr) (pb : Int → Bool) : Prop :=
  ∀ (cenv : Env) (A' : Around) (E' : Value → Shared → Prop) (i : Int) (t : Tok) (s₂ : Shared) (m₂ : Str → Option Value), cenv.scope = scope → s₂.heap.Ns cenv.locals m₂ → m₂ x = some (.int i t) →
    wpAny (model prog w) A' (isTrue c cenv (eval c cenv)) (fun ok s₃ => ok = pb i ∧ Keeps s₂ s₃) E' s₂
theorem test_ne0 {prog : Program} {w : World} {scope : Scope} {x : Str} {j : Nat} {p1 p2 p3 : Pos} (hk : scope.kind = .function) (hl : scope.names.lookup x = some .local) (hd : (x == ("__debug__" : Str)) = false := by decide) :
    TestI prog w scope x (.Compare (.Name x p1) [.NotEq] [.Constant (.int 0) j p2] p3) (fun i => i != 0) := by
  intro cenv A' E' i t s₂ m₂ hs hn hm
  refine wpAny_isTrue_Compare1 ?_
  refine wpAny_Name (wpAny_loadName_local (by rw [hs]; exact hk) (show cenv.scope.names.lookup x = some .local by rw [hs]; exact hl) hn hm ?_) hd
  refine wpAny_Constant_int ?_
  exact PySem.P.ne_int (wpAny_truthy_bool ⟨rfl, keeps_tok _ _⟩)
/-- the element is the int in x -/
theorem elt_name {prog : Program} {w : World} {cenv : Env} {A' : Around} {E' : Value → Shared → Prop} {x : Str} {p1 : Pos} {v : Value} {s₂ : Shared} {m₂ : Str → Option Value} {scope : Scope} (hs : cenv.scope = scope) (hk : scope.kind = .function) (hl : scope.names.lookup x = some .local) (hn : s₂.heap.Ns cenv.locals m₂) (hm : m₂ x = some v) (hd : (x == ("__debug__" : Str)) = false := by decide) :
    wpAny (model prog w) A' (eval (.Name x p1) cenv) (fun y s₃ => y = v ∧ Keeps s₂ s₃) E' s₂ :=
  wpAny_Name (wpAny_loadName_local (by rw [hs]; exact hk) (show cenv.scope.names.lookup x = some .local by rw [hs]; exact hl) hn hm ⟨rfl, keeps_refl _⟩) hd
theorem one_if {M : Model} {A : Around} {E : Value → Shared → Prop} {s : Shared} {c : Expr} {cenv : Env} {Q : Bool → Shared → Prop} (h : wpAny M A (isTrue c cenv (eval c cenv)) Q E s) :
    wpAny M A (forIn [c] true fun c r => if r = true then do let ok ← isTrue c cenv (eval c cenv); pure (ForInStep.yield ok) else pure (ForInStep.yield r)) Q E s := by
  simp only [List.forIn_cons, List.forIn_nil, if_true]
  exact wpAny_bind (wpAny_bind (wpAny_mono h (fun ok s' hq => wpAny_pure (wpAny_pure hq)) fun _ _ e => e))
section
variable {X : Cx} {pins : List (Addr × Obj)} {σ : L2.St} {H : Hp} {s : Shared}
/-- the generator g, ready to be asked, its j-th item is tied by F to the j-th place of js -/
def ReadyN (X : Cx) (pins : List (Addr × Obj)) (σ : L2.St) (H1 : Hp) (P : Addr) (js : List Nat) (F : Nat → Value → Prop) (g : Addr) (s5 : Shared) : Prop :=
  ∃ (fp wr : List Addr) (G : Array GenState → Array GenState → Prop) (St : Nat → Shared → Prop),
    WalksS X.prog X.w X.A.in1 g fp wr G js.length (fun j y => ∃ i, js[j]? = some i ∧ F i y) St ∧ St 0 s5 ∧ s5.TypeIs (.ref g) "generator" ∧
    ∀ s', Moved wr G s5 s' → ∃ H2, Tabbed P H1 H2 ∧ Inv X pins σ H2 s'
def pzL (pb : Int → Bool) (l : List Int) (i : Nat) : Bool := match l[i]? with
  | some z => pb z
  | none => false
theorem pzL_some {pb : Int → Bool} {l : List Int} {i : Nat} {z : Int} (h : l[i]? = some z) : pzL pb l i = pb z := by
  unfold pzL
  rw [h]
/-- an item of a row of ints, by values -/
theorem int_item {l : List Int} {its : List Value} (rv : Vals (l.map V.int) its) {i : Nat} {x : Value} (h : its[i]? = some x) : ∃ z t, l[i]? = some z ∧ x = .int z t := by
  have hl := rv.length
  have hi : i < its.length := (List.getElem?_eq_some_iff.mp h).1
  rw [List.length_map] at hl
  have hi2 : i < l.length := by omega
  obtain ⟨u, hu, ru⟩ := rv.get (i := i) (x := .int l[i]) (by rw [List.getElem?_map, List.getElem?_eq_getElem hi2]; rfl)
  obtain ⟨t, rfl⟩ := ru
  rw [h] at hu
  exact ⟨l[i], t, List.getElem?_eq_getElem hi2, Option.some.inj hu⟩
theorem passing_nil {pb : Int → Bool} {l : List Int} (h : (passing (pzL pb l) l.length 0).length = 0) : ∀ (j : Nat) (z : Int), l[j]? = some z → pb z = false := fun j z hj => by
  have e : passing (pzL pb l) l.length 0 = [] := List.eq_nil_of_length_eq_zero h
  have hlt : j < l.length := (List.getElem?_eq_some_iff.mp hj).1
  cases hb : pb z with
  | false => rfl
  | true =>
    have hm : j ∈ passing (pzL pb l) l.length 0 := by
      unfold passing
      rw [List.drop_zero]
      exact List.mem_filter.mpr ⟨List.mem_range.mpr hlt, by rw [pzL_some hj]; exact hb⟩
    rw [e] at hm
    cases hm
theorem passing_first {pb : Int → Bool} {l : List Int} {i : Nat} (h : (passing (pzL pb l) l.length 0)[0]? = some i) : ∃ z, l[i]? = some z ∧ pb z = true ∧ ∀ (j : Nat) (y : Int), j < i → l[j]? = some y → pb y = false := by
  unfold passing at h
  rw [List.drop_zero] at h
  have h2 : ((List.range l.length).filter (pzL pb l)).head? = some i := by rw [List.head?_eq_getElem?]; exact h
  rw [List.head?_filter] at h2
  have h3 := List.find?_eq_some_iff_getElem.mp h2
  obtain ⟨hp, k, hk, ek, hn⟩ := h3
  rw [List.getElem_range] at ek
  subst ek
  rw [List.length_range] at hk
  refine ⟨l[k], List.getElem?_eq_getElem hk, ?_, fun j y hj hy => ?_⟩
  · rw [pzL_some (List.getElem?_eq_getElem hk)] at hp
    exact hp
  · have := hn j hj
    rw [List.getElem_range, pzL_some hy] at this
    simpa using this
theorem gen_name {c P : Addr} {e ct : Expr} {x : Str} {px gpos : Pos} {scope : Scope} {pb : Int → Bool} {te : TE} {k : Nat} {p1 : Pos} {Q' : Value → Shared → Prop} {R : Addr → List Int → Hp → Prop}
    (hr : Room k X.A) (TB : TabB X.base X.mg c P) (hcode : X.env.code = .ref c) (S : GenS X.env scope x) (he : PE X e te)
    (htest : TestI X.prog X.w scope x ct pb) (hda : (x == ("__debug__" : Str)) = false)
    (hs : ∀ v, genFold e X.env v = pure v) (I : Inv X pins σ H s) (h : te σ H fun v H1 => ∃ (t : Addr) (l : List Int), v = .ref t ∧ SqT X.K H1 t (l.map V.int) ∧ TabG H1 P ∧ R t l H1)
    (hQ : ∀ t l H1 g s5, R t l H1 → ReadyN X pins σ H1 P (passing (pzL pb l) l.length 0) (fun i y => ∃ z u, l[i]? = some z ∧ y = .int z u) g s5 → Q' (.ref g) s5) :
    wpAny (model X.prog X.w) X.A (eval (.GeneratorExp (.Name x p1) [⟨.Name x px, e, [ct], 0⟩] scope gpos) X.env) Q' X.xe s := by
  refine wpAny_GeneratorExp_walksQ hr.hd S.co (closure_ok S.free) S.cell S.dot S.loc S.kind (by have := hr.dp; omega) ?_ hs
  refine thn (he.run pins s σ H _ I h) fun us s1 hv => ?_
  obtain ⟨vs, H1, I1, r1, t, l, rfl, hq, ⟨ps, hP, ht⟩, q1⟩ := hv
  obtain rfl : us = Value.ref t := r1
  · skip
    obtain ⟨its, rv, p', hz⟩ := I1.tuple hq
    have pT : s1.heap.IsTuple t its.toArray := p'
    have hlt : t < s1.heap.objs.size := by obtain ⟨_, ho, _⟩ := p'; exact Heap.lt_size ho
    refine wpAny_pyIter_tuple pT ?_
    have hk2 : ∀ b o, s1.heap.get? b = some o → (s1.heap.push { cls := .type "tuple_iterator", data := .fields #[.ref t, .int 0 0] }).get? b = some o := fun b o z => Heap.get?_push_of_some _ z
    have hit : (s1.heap.push { cls := .type "tuple_iterator", data := .fields #[.ref t, .int 0 0] }).IsTupleIter s1.heap.objs.size t 0 := ⟨_, Heap.get?_push_size _ rfl, rfl, rfl⟩
    have hsz2 : (s1.heap.push { cls := .type "tuple_iterator", data := .fields #[.ref t, .int 0 0] }).objs.size = s1.heap.objs.size + 1 := Heap.size_push ..
    generalize s1.heap.push { cls := .type "tuple_iterator", data := .fields #[.ref t, .int 0 0] } = h2 at hk2 hit hsz2 ⊢
    have hPs : s1.heap.get? P = some { cls := .none, data := .fields ps } := I1.hok P _ hP
    have hPlt : P < s1.heap.objs.size := Heap.lt_size hPs
    have hP2 : h2.get? P = some { cls := .none, data := .fields ps } := hk2 _ _ hPs
    have cd : PySem.W.CodeHd h2 c P := TB.code.keeps fun b u e => hk2 _ _ (I1.bk b u e)
    have lim2 : h2.NoLimit := I1.nolimit.keeps hk2
    have hll := rv.length
    rw [List.length_map] at hll
    have tP : t ≠ P := fun z => by
      obtain ⟨o, ho, _, n, hd⟩ := pT
      rw [z, hPs] at ho
      cases ho
      cases hd
    have hzn : its.toArray.size = l.length := by rw [List.size_toArray]; omega
    have WT : ∀ A' : Around, A'.handled = none → Walks X.prog X.w A' s1.heap.objs.size _ _ _ _ _ := fun A' hA => Walks.tuple (prog := X.prog) (w := X.w) (A := A') hA s1.heap.objs.size t (Nat.ne_of_lt hlt) its.toArray
    have cont : ∀ (code : Value) (h3 : Heap) (tk : Nat) (ps' : Array Value), Heap.ExtBut P h2 h3 → h2.objs.size ≤ h3.objs.size → h3.get? P = some { cls := .none, data := .fields ps' } → (∃ more, ps' = ps ++ more) → TriplesOk ps'.toList →
        wpAny (model X.prog X.w) X.A (builtinsFor X.env.globals X.env.builtins) (fun bi s₄ =>
          ∃ Ia fp wr n₀ Pf St₀ pz F, Value.ref s1.heap.objs.size = .ref Ia ∧ (∀ A' : Around, A'.handled = none → Walks X.prog X.w A' Ia fp wr n₀ Pf St₀) ∧ St₀ 0 s₄.heap ∧ (∀ b ∈ fp, b < s₄.heap.objs.size) ∧ s₄.heap.NoLimit ∧ cStatics ∉ wr ∧
            (∀ href : Heap, (∀ b o, s₄.heap.get? b = some o → href.get? b = some o) →
              QuietGen X.prog X.w (genEnv scope (cloFrom X.env.cells scope.names []) s₄.heap.objs.size code bi X.env) x [ct] (.Name x p1) (List.range s₄.heap.objs.size) wr Pf pz F href) ∧
            (∀ a h₅ tk gs, gs.bare = true → s₄.heap.objs.size < a → h₅.objs.size = a + 1 → (∀ b o, s₄.heap.get? b = some o → h₅.get? b = some o) →
              WalksS X.prog X.w X.A.in4 a (a :: s₄.heap.objs.size :: List.range s₄.heap.objs.size) (s₄.heap.objs.size :: wr) (GenOnlyQ s₄.gens.size) (passing pz n₀ 0).length
                (fun j y => ∃ i, (passing pz n₀ 0)[j]? = some i ∧ F i y) (GenAt X.prog X.w X.A.in4 a s₄.gens.size s₄.heap.objs.size (List.range s₄.heap.objs.size) wr pz n₀ F) →
              GenAt X.prog X.w X.A.in4 a s₄.gens.size s₄.heap.objs.size (List.range s₄.heap.objs.size) wr pz n₀ F 0 { s₄ with gens := s₄.gens.push gs, toks := tk, heap := h₅ } →
              Q' (.ref a) { s₄ with gens := s₄.gens.push gs, toks := tk, heap := h₅ })) X.xe { s1 with heap := h3, toks := tk } := by
      intro code h3 tk ps' hx hsz hP3 hmore ht3
      obtain ⟨bm, ob, e1, e2, e3, e4, e5, e6, e7, e8⟩ := TB.bm
      have hcP : cStatics ≠ P := fun e => by
        obtain ⟨_, hns, _⟩ := I1.nolimit
        obtain ⟨o', es, ep, ho, hd, _⟩ := hns
        rw [e, hPs] at ho
        cases ho
        cases hd
      have hcl : cStatics < s1.heap.objs.size := let ⟨_, hns, _⟩ := I1.nolimit; hns.lt
      have keep3 : ∀ b u, b ≠ P → s1.heap.get? b = some u → h3.get? b = some u := fun b u hb e => hx b u hb (hk2 _ _ e)
      have iP : s1.heap.objs.size ≠ P := fun z => Nat.lt_irrefl _ (z ▸ hPlt)
      have off : ∀ b, b < s1.heap.objs.size → b ∉ [s1.heap.objs.size] := fun b hb hm => by
        have hm' : b = s1.heap.objs.size := by simpa using hm
        exact Nat.ne_of_lt hb hm'
      refine wpAny_builtinsFor (m := X.mg) (by rw [I1.ok.glob]; exact (((I1.mod.glob.keeps I1.bk).keeps hk2).extBut hx TB.gP)) e1 e2 (keep3 _ _ e4 (I1.bk _ _ e5)) e6 e7 e8 ?_
      refine ⟨s1.heap.objs.size, _, _, _, _, _, pzL pb l, (fun i y => ∃ z u, l[i]? = some z ∧ y = .int z u), rfl, WT, ⟨hit.at fun o q => hx _ o iP q, pT.at fun o q => keep3 _ o tP q⟩, ?_, lim2.extBut hx hcP, off _ hcl, ?_, ?_⟩
      · intro b hb
        have hb' : b = s1.heap.objs.size ∨ b = t := by simpa using hb
        show b < h3.objs.size
        rcases hb' with z | z
        · rw [z]
          show s1.heap.objs.size < h3.objs.size
          omega
        · rw [z]
          exact Nat.lt_of_lt_of_le hlt (show s1.heap.objs.size ≤ h3.objs.size by omega)
      · intro href hhref
        refine ⟨fun A' E' i v s₂ m₂ hA hPv hn hm hk => ?_, fun A' E' i v s₂ m₂ hA hPv hp hn hm hk => ?_⟩
        · have hxi' : its[i]? = some v := by simpa using hPv
          obtain ⟨z, t2, hz1, rfl⟩ := int_item rv hxi'
          refine one_if (wpAny_mono (htest _ A' E' z t2 s₂ m₂ rfl hn hm) (fun ok s3 q => ⟨?_, q.2⟩) fun _ _ e => e)
          rw [pzL_some hz1]
          exact q.1
        · have hxi' : its[i]? = some v := by simpa using hPv
          obtain ⟨z, t2, hz1, rfl⟩ := int_item rv hxi'
          exact wpAny_mono (elt_name (scope := scope) rfl S.kind S.loc hn hm hda) (fun y s3 q => ⟨⟨z, t2, hz1, q.1⟩, q.2⟩) fun _ _ e => e
      · intro g h5 tk5 gs hgb hag hsz5 hk5 W5 hat
        rw [hzn] at W5
        refine hQ t l H1 g _ q1 ⟨_, _, _, _, W5.in4_1, ?_, hat.1.typeIs, fun s' hm => ?_⟩
        · rw [hzn] at hat
          exact hat
        · obtain ⟨more, em⟩ := hmore
          have nwr : ∀ b u, s1.heap.get? b = some u → b ∉ h3.objs.size :: [s1.heap.objs.size] := fun b u e hb => by
            have hl := Heap.lt_size e
            rcases List.mem_cons.mp hb with z | z
            · rw [z] at hl
              have h9 : (h3.objs.size : Nat) < s1.heap.objs.size := hl
              omega
            · exact off b hl z
          have J := inv_tab (more := more) (h' := s'.heap) (g' := s'.gens) (d' := s'.drawn) (t' := s'.toks) I1 hP (fun b u hb e => hm.heap b u (nwr b u e) (hk5 b u (keep3 b u hb e)))
            (by rw [← em]; exact hm.heap P _ (nwr P _ hPs) (hk5 P _ hP3)) (AllBare.movedS (I1.bare.push hgb) hm)
          rw [sh_eta s1 s' hm.os] at J
          refine ⟨upd H1 P (.tbl (ps ++ more)), ⟨⟨ps ++ more, upd_same, by rw [← em]; exact ht3⟩, fun b hb => upd_ne hb⟩, J⟩
    refine ⟨lim2, ?_⟩
    cases hf : codeAmong gpos ps.toList with
    | none =>
      refine wpAny_genexprCodeX hcode (cd.code hP2 ht) (cd.tab hP2) hf fun c' h' tk hx hge hlt hco' _ htab' _ => ?_
      obtain ⟨o1, vs, f1, tf, fl, tg, inF, tx, tt, op, _, _, _, _, _, _, _, _, _, htr, _⟩ := hco'
      exact cont _ h' tk _ hx (Nat.le_trans hge (Nat.le_of_lt hlt)) htab'.2 ⟨_, rfl⟩ htr
    | some cv =>
      refine wpAny_genexprCode_hit hcode (cd.code hP2 ht) hf ?_
      exact cont cv h2 s1.toks ps (Heap.ExtBut.refl _ _) (Nat.le_refl _) hP2 ⟨#[], by simp⟩ ht
/-- the first entry that the test lets pass, or the default -/
def FirstOf (pb : Int → Bool) (l : List Int) (d r : Int) : Prop :=
  ((∀ (j : Nat) (z : Int), l[j]? = some z → pb z = false) ∧ r = d) ∨ ∃ i : Nat, l[i]? = some r ∧ pb r = true ∧ ∀ (j : Nat) (y : Int), j < i → l[j]? = some y → pb y = false
end
end GenNx

set_option Elab.async false
set_option linter.all false
set_option maxRecDepth 100000
set_option maxHeartbeats 2000000
/-! next(x for x in xs if .., default), xs a list of ints -/
namespace GenNl
open PySem PySem.Spec PyProof.Rows L2 GxR EnumT GenNx
section
variable {X : Cx} {pins : List (Addr × Obj)} {σ : L2.St} {H : Hp} {s : Shared}
theorem gen_name {c P : Addr} {e ct : Expr} {x : Str} {px gpos : Pos} {scope : Scope} {pb : Int → Bool} {te : TE} {k : Nat} {p1 : Pos} {Q' : Value → Shared → Prop} {R : Addr → List Int → Hp → Prop}
    (hr : Room k X.A) (TB : TabB X.base X.mg c P) (hcode : X.env.code = .ref c) (S : GenS X.env scope x) (he : PE X e te)
    (htest : TestI X.prog X.w scope x ct pb) (hda : (x == ("__debug__" : Str)) = false)
    (hs : ∀ v, genFold e X.env v = pure v) (I : Inv X pins σ H s) (h : te σ H fun v H1 => ∃ (t : Addr) (l : List Int), v = .ref t ∧ SqL X.K H1 t (l.map V.int) ∧ TabG H1 P ∧ R t l H1)
    (hQ : ∀ t l H1 g s5, R t l H1 → ReadyN X pins σ H1 P (passing (pzL pb l) l.length 0) (fun i y => ∃ z u, l[i]? = some z ∧ y = .int z u) g s5 → Q' (.ref g) s5) :
    wpAny (model X.prog X.w) X.A (eval (.GeneratorExp (.Name x p1) [⟨.Name x px, e, [ct], 0⟩] scope gpos) X.env) Q' X.xe s := by
  refine wpAny_GeneratorExp_walksQ hr.hd S.co (closure_ok S.free) S.cell S.dot S.loc S.kind (by have := hr.dp; omega) ?_ hs
  refine thn (he.run pins s σ H _ I h) fun us s1 hv => ?_
  obtain ⟨vs, H1, I1, r1, t, l, rfl, hq, ⟨ps, hP, ht⟩, q1⟩ := hv
  obtain rfl : us = Value.ref t := r1
  · skip
    obtain ⟨its, rv, p0, hz⟩ := I1.list hq
    have p' := p0.isList
    have pT : s1.heap.IsList t its.toArray := p'
    have hlt : t < s1.heap.objs.size := by obtain ⟨_, ho, _⟩ := p'; exact Heap.lt_size ho
    refine wpAny_pyIter_list pT ?_
    have hk2 : ∀ b o, s1.heap.get? b = some o → (s1.heap.push { cls := .type "list_iterator", data := .fields #[.ref t, .int 0 0] }).get? b = some o := fun b o z => Heap.get?_push_of_some _ z
    have hit : (s1.heap.push { cls := .type "list_iterator", data := .fields #[.ref t, .int 0 0] }).IsListIter s1.heap.objs.size t 0 := ⟨_, Heap.get?_push_size _ rfl, rfl, rfl⟩
    have hsz2 : (s1.heap.push { cls := .type "list_iterator", data := .fields #[.ref t, .int 0 0] }).objs.size = s1.heap.objs.size + 1 := Heap.size_push ..
    generalize s1.heap.push { cls := .type "list_iterator", data := .fields #[.ref t, .int 0 0] } = h2 at hk2 hit hsz2 ⊢
    have hPs : s1.heap.get? P = some { cls := .none, data := .fields ps } := I1.hok P _ hP
    have hPlt : P < s1.heap.objs.size := Heap.lt_size hPs
    have hP2 : h2.get? P = some { cls := .none, data := .fields ps } := hk2 _ _ hPs
    have cd : PySem.W.CodeHd h2 c P := TB.code.keeps fun b u e => hk2 _ _ (I1.bk b u e)
    have lim2 : h2.NoLimit := I1.nolimit.keeps hk2
    have hll := rv.length
    rw [List.length_map] at hll
    have tP : t ≠ P := fun z => by
      obtain ⟨o, ho, _, n, hd⟩ := pT
      rw [z, hPs] at ho
      cases ho
      cases hd
    have hzn : its.toArray.size = l.length := by rw [List.size_toArray]; omega
    have WT : ∀ A' : Around, A'.handled = none → Walks X.prog X.w A' s1.heap.objs.size _ _ _ _ _ := fun A' hA => Walks.list (prog := X.prog) (w := X.w) (A := A') hA s1.heap.objs.size t (Nat.ne_of_lt hlt) its.toArray
    have cont : ∀ (code : Value) (h3 : Heap) (tk : Nat) (ps' : Array Value), Heap.ExtBut P h2 h3 → h2.objs.size ≤ h3.objs.size → h3.get? P = some { cls := .none, data := .fields ps' } → (∃ more, ps' = ps ++ more) → TriplesOk ps'.toList →
        wpAny (model X.prog X.w) X.A (builtinsFor X.env.globals X.env.builtins) (fun bi s₄ =>
          ∃ Ia fp wr n₀ Pf St₀ pz F, Value.ref s1.heap.objs.size = .ref Ia ∧ (∀ A' : Around, A'.handled = none → Walks X.prog X.w A' Ia fp wr n₀ Pf St₀) ∧ St₀ 0 s₄.heap ∧ (∀ b ∈ fp, b < s₄.heap.objs.size) ∧ s₄.heap.NoLimit ∧ cStatics ∉ wr ∧
            (∀ href : Heap, (∀ b o, s₄.heap.get? b = some o → href.get? b = some o) →
              QuietGen X.prog X.w (genEnv scope (cloFrom X.env.cells scope.names []) s₄.heap.objs.size code bi X.env) x [ct] (.Name x p1) (List.range s₄.heap.objs.size) wr Pf pz F href) ∧
            (∀ a h₅ tk gs, gs.bare = true → s₄.heap.objs.size < a → h₅.objs.size = a + 1 → (∀ b o, s₄.heap.get? b = some o → h₅.get? b = some o) →
              WalksS X.prog X.w X.A.in4 a (a :: s₄.heap.objs.size :: List.range s₄.heap.objs.size) (s₄.heap.objs.size :: wr) (GenOnlyQ s₄.gens.size) (passing pz n₀ 0).length
                (fun j y => ∃ i, (passing pz n₀ 0)[j]? = some i ∧ F i y) (GenAt X.prog X.w X.A.in4 a s₄.gens.size s₄.heap.objs.size (List.range s₄.heap.objs.size) wr pz n₀ F) →
              GenAt X.prog X.w X.A.in4 a s₄.gens.size s₄.heap.objs.size (List.range s₄.heap.objs.size) wr pz n₀ F 0 { s₄ with gens := s₄.gens.push gs, toks := tk, heap := h₅ } →
              Q' (.ref a) { s₄ with gens := s₄.gens.push gs, toks := tk, heap := h₅ })) X.xe { s1 with heap := h3, toks := tk } := by
      intro code h3 tk ps' hx hsz hP3 hmore ht3
      obtain ⟨bm, ob, e1, e2, e3, e4, e5, e6, e7, e8⟩ := TB.bm
      have hcP : cStatics ≠ P := fun e => by
        obtain ⟨_, hns, _⟩ := I1.nolimit
        obtain ⟨o', es, ep, ho, hd, _⟩ := hns
        rw [e, hPs] at ho
        cases ho
        cases hd
      have hcl : cStatics < s1.heap.objs.size := let ⟨_, hns, _⟩ := I1.nolimit; hns.lt
      have keep3 : ∀ b u, b ≠ P → s1.heap.get? b = some u → h3.get? b = some u := fun b u hb e => hx b u hb (hk2 _ _ e)
      have iP : s1.heap.objs.size ≠ P := fun z => Nat.lt_irrefl _ (z ▸ hPlt)
      have off : ∀ b, b < s1.heap.objs.size → b ∉ [s1.heap.objs.size] := fun b hb hm => by
        have hm' : b = s1.heap.objs.size := by simpa using hm
        exact Nat.ne_of_lt hb hm'
      refine wpAny_builtinsFor (m := X.mg) (by rw [I1.ok.glob]; exact (((I1.mod.glob.keeps I1.bk).keeps hk2).extBut hx TB.gP)) e1 e2 (keep3 _ _ e4 (I1.bk _ _ e5)) e6 e7 e8 ?_
      refine ⟨s1.heap.objs.size, _, _, _, _, _, pzL pb l, (fun i y => ∃ z u, l[i]? = some z ∧ y = .int z u), rfl, WT, ⟨hit.at fun o q => hx _ o iP q, pT.at fun o q => keep3 _ o tP q⟩, ?_, lim2.extBut hx hcP, off _ hcl, ?_, ?_⟩
      · intro b hb
        have hb' : b = s1.heap.objs.size ∨ b = t := by simpa using hb
        show b < h3.objs.size
        rcases hb' with z | z
        · rw [z]
          show s1.heap.objs.size < h3.objs.size
          omega
        · rw [z]
          exact Nat.lt_of_lt_of_le hlt (show s1.heap.objs.size ≤ h3.objs.size by omega)
      · intro href hhref
        refine ⟨fun A' E' i v s₂ m₂ hA hPv hn hm hk => ?_, fun A' E' i v s₂ m₂ hA hPv hp hn hm hk => ?_⟩
        · have hxi' : its[i]? = some v := by simpa using hPv
          obtain ⟨z, t2, hz1, rfl⟩ := int_item rv hxi'
          refine one_if (wpAny_mono (htest _ A' E' z t2 s₂ m₂ rfl hn hm) (fun ok s3 q => ⟨?_, q.2⟩) fun _ _ e => e)
          rw [pzL_some hz1]
          exact q.1
        · have hxi' : its[i]? = some v := by simpa using hPv
          obtain ⟨z, t2, hz1, rfl⟩ := int_item rv hxi'
          exact wpAny_mono (elt_name (scope := scope) rfl S.kind S.loc hn hm hda) (fun y s3 q => ⟨⟨z, t2, hz1, q.1⟩, q.2⟩) fun _ _ e => e
      · intro g h5 tk5 gs hgb hag hsz5 hk5 W5 hat
        rw [hzn] at W5
        refine hQ t l H1 g _ q1 ⟨_, _, _, _, W5.in4_1, ?_, hat.1.typeIs, fun s' hm => ?_⟩
        · rw [hzn] at hat
          exact hat
        · obtain ⟨more, em⟩ := hmore
          have nwr : ∀ b u, s1.heap.get? b = some u → b ∉ h3.objs.size :: [s1.heap.objs.size] := fun b u e hb => by
            have hl := Heap.lt_size e
            rcases List.mem_cons.mp hb with z | z
            · rw [z] at hl
              have h9 : (h3.objs.size : Nat) < s1.heap.objs.size := hl
              omega
            · exact off b hl z
          have J := inv_tab (more := more) (h' := s'.heap) (g' := s'.gens) (d' := s'.drawn) (t' := s'.toks) I1 hP (fun b u hb e => hm.heap b u (nwr b u e) (hk5 b u (keep3 b u hb e)))
            (by rw [← em]; exact hm.heap P _ (nwr P _ hPs) (hk5 P _ hP3)) (AllBare.movedS (I1.bare.push hgb) hm)
          rw [sh_eta s1 s' hm.os] at J
          refine ⟨upd H1 P (.tbl (ps ++ more)), ⟨⟨ps ++ more, upd_same, by rw [← em]; exact ht3⟩, fun b hb => upd_ne hb⟩, J⟩
    refine ⟨lim2, ?_⟩
    cases hf : codeAmong gpos ps.toList with
    | none =>
      refine wpAny_genexprCodeX hcode (cd.code hP2 ht) (cd.tab hP2) hf fun c' h' tk hx hge hlt hco' _ htab' _ => ?_
      obtain ⟨o1, vs, f1, tf, fl, tg, inF, tx, tt, op, _, _, _, _, _, _, _, _, _, htr, _⟩ := hco'
      exact cont _ h' tk _ hx (Nat.le_trans hge (Nat.le_of_lt hlt)) htab'.2 ⟨_, rfl⟩ htr
    | some cv =>
      refine wpAny_genexprCode_hit hcode (cd.code hP2 ht) hf ?_
      exact cont cv h2 s1.toks ps (Heap.ExtBut.refl _ _) (Nat.le_refl _) hP2 ⟨#[], by simp⟩ ht
/-- next((x for x in e if test of x), d) -/
def tNextL (K : PySem.W.Frag) (P : Addr) (pb : Int → Bool) (d : Int) (te : TE) : TE := fun σ H Q => te σ H fun v H1 => ∃ (t : Addr) (l : List Int), v = .ref t ∧ SqL K H1 t (l.map V.int) ∧ TabG H1 P ∧ ∀ r H2, FirstOf pb l d r → Tabbed P H1 H2 → Q (.int r) H2
theorem pe_nextL {c P : Addr} {e ct : Expr} {x : Str} {px gpos p pos dp : Pos} {jd : Nat} {scope : Scope} {pb : Int → Bool} {d : Int} {te : TE} {k : Nat} {p1 : Pos}
    (hr : Room k X.A) (hgn : Gl X "next") (hmn : X.mg "next" = none) (TB : TabB X.base X.mg c P) (hcode : X.env.code = .ref c) (S : GenS X.env scope x) (he0 : PE X e te)
    (htest : TestI X.prog X.w scope x ct pb) (hda : (x == ("__debug__" : Str)) = false := by decide)
    (hs : ∀ v, genFold e X.env v = pure v := by intro _; rfl)
    (he : starEach [.GeneratorExp (.Name x p1) [⟨.Name x px, e, [ct], 0⟩] scope gpos, .Constant (.int d) jd dp] X.env
      = (false, eval (.GeneratorExp (.Name x p1) [⟨.Name x px, e, [ct], 0⟩] scope gpos) X.env) :: starEach [.Constant (.int d) jd dp] X.env := by rfl)
    (he2 : starEach [.Constant (.int d) jd dp] X.env = [(false, eval (.Constant (.int d) jd dp) X.env)] := by rfl) :
    PE X (.Call (.Name "next" p) [.GeneratorExp (.Name x p1) [⟨.Name x px, e, [ct], 0⟩] scope gpos, .Constant (.int d) jd dp] [] pos) (tNextL X.K P pb d te) := by
  refine ⟨fun pins s σ H Q I h => ?_⟩
  refine wpAny_Call_Name_kw (ld_blt I hgn hmn boot_next ?_)
  refine PyProof.Rows.callWith_builtin1 ?_ he (by rw [he2]; rfl)
  rw [he, he2]
  show wpAny _ _ (spliced ((false, eval (.GeneratorExp (.Name x p1) [⟨.Name x px, e, [ct], 0⟩] scope gpos) X.env) :: (false, eval (.Constant (.int d) jd dp) X.env) :: [])) _ _ s
  refine Calls.spliced_cons (gen_name (R := fun t l H1 => ∀ r H2, FirstOf pb l d r → Tabbed P H1 H2 → Q (.int r) H2) hr TB hcode S he0 htest hda hs I h fun t l H1 g s5 hR hG => ?_)
  refine Calls.spliced_cons (wpAny_Constant_int (Calls.spliced_nil ?_))
  obtain ⟨fp, wr, G, St, W, hst5, hT, hI⟩ := hG
  have back : ∀ {s'}, Moved wr G { s5 with toks := s5.toks + 1 } s' → Moved wr G s5 s' := fun m => ⟨m.heap, m.gens, m.drawn, m.os, Nat.le_trans (Nat.le_succ _) m.toks⟩
  refine call_next_walkS W hT (W.frame 0 s5 s5.heap (s5.toks + 1) hst5 (Nat.le_succ _) fun _ _ _ z => z) (fun v s' hn hv hmv => ?_) (fun s' hn hmv => ?_)
  · obtain ⟨H2, hTb, J⟩ := hI s' (back hmv)
    obtain ⟨i, hi, y, u, hy, rfl⟩ := hv
    obtain ⟨z, hz1, hz2, hz3⟩ := passing_first hi
    rw [hy] at hz1
    cases hz1
    exact ⟨.int y, H2, J, ⟨u, rfl⟩, hR y H2 (.inr ⟨i, hy, hz2, hz3⟩) hTb⟩
  · obtain ⟨H2, hTb, J⟩ := hI s' (back hmv)
    exact ⟨.int d, H2, J, ⟨_, rfl⟩, hR d H2 (.inl ⟨passing_nil hn, rfl⟩) hTb⟩
end
end GenNl

set_option Elab.async false
set_option linter.all false
set_option maxRecDepth 100000
set_option maxHeartbeats 2000000
/-! HookW's Hook with defs that hold generator expressions: their code objects, the tables of these, empty at the start and left out of the fragment -/
namespace HookT
open PySem PySem.Spec PyProof.Rows L2 He HookG
/-- the code object of the function at a -/
def codA (K : PySem.W.Frag) (a : Addr) : Addr := match K.lookup a with
  | some ⟨_, _, .func fd, _⟩ => (match fd.code with
    | .ref c => c
    | _ => 0)
  | _ => 0
theorem code_of {K : PySem.W.Frag} {x qual : Str} {params : Arguments} {body : List Stmt} {scope : Scope} {dvs : List V} {kws : List (Str × V)} {f : Addr} {fd : FuncData} (F : FunD K x qual params body scope dvs kws f fd) : fd.code = .ref (codA K f) := by
  obtain ⟨oc, od, dV, kV, doc, pm, an, cdv, ct, osl, rfl, lk, hcd, _, _⟩ := F.ex
  obtain ⟨c, rfl⟩ := codeIn_ref hcd
  unfold codA
  rw [lk] <;> rfl
/-- FunD.ok with the code object known -/
theorem okC {P : Program} {w : World} {K : PySem.W.Frag} {mg : Str → Option Value} {base : Heap} {x qual : Str} {params : Arguments} {body : List Stmt} {scope : Scope} {dvs : List V} {kws : List (Str × V)} {f : Addr} {fd : FuncData} {CX : CXT} {N ps : List Str} {k : Nat} {sp : Sp}
    (F : FunD K x qual params body scope dvs kws f fd) (S : FnScope N ps scope) (len : ∀ vs H Q E, sp vs H Q E → vs.length = ps.length)
    (hbody : ∀ (A : Around) (outer : List Env) (s : Shared) (H : Hp) (vs : List V) (Q : VK) (E : XK), Room k (A.deeper (envOfC qual scope s.heap.objs.size f fd.code)) → sp vs H Q E →
      ∃ t, PSs (cxOf CX P w K mg base N qual scope f fd.code A outer s H E) body t ∧ t { nx := fun _ H' => Q .non H', rt := Q } (start N vs) H) : FnOk P w K mg base CX (k + 1) f fd ps sp := by
  obtain ⟨oc, od, dV, kV, doc, pm, an, cdv, ct, osl, rfl, lk, hcd, _, _⟩ := F.ex
  exact fn_of lk hcd S len fun A outer s H vs Q E hr hsp => hbody A outer s H vs Q E hr hsp
def cTA (K : PySem.W.Frag) (p : At) : Addr × Addr := (codA K (p.adr K), tabOf K (codA K (p.adr K)))
structure SaysGT (fa : List Fa) (fn : List GD) (tf : List At) (ex : PySem.W.Frag → Bool) (h : Heap) (K : PySem.W.Frag) : Prop where
  g : SaysG fa fn ex K
  hd : ∀ p ∈ tf, PySem.W.codeHdIn K (cTA K p).1 (cTA K p).2 = true
  out : ∀ p ∈ tf, K.lookup (cTA K p).2 = none
  empty : ∀ p ∈ tf, h.get? (cTA K p).2 = some { cls := .none, data := .fields #[] }
def tabsB (g : Addr → Option Obj) (tf : List At) (K : PySem.W.Frag) : Bool := tf.all fun p => PySem.W.codeHdIn K (cTA K p).1 (cTA K p).2 && (match g (cTA K p).2 with
  | some o => emptyTab o
  | none => false)
abbrev AlGT : Type := AlG × Bool
def obsGT (n : Nat) (fa : List Fa) (fn : List GD) (tf : List At) (ex : PySem.W.Frag → Bool) (g : Addr → Option Obj) : AlGT := (obsG fa fn ex (frT g (asW g n)), tabsB g tf (frT g (asW g n)))
theorem saysGT_of {n : Nat} {fa : List Fa} {fn : List GD} {tf : List At} {ex : PySem.W.Frag → Bool} {h : Heap} (e : obsGT n fa fn tf ex h.get? = (valG fn, true)) : SaysGT fa fn tf ex h (frT h.get? (asW h.get? n)) := by
  have e1 : obsG fa fn ex (frT h.get? (asW h.get? n)) = valG fn := congrArg (fun z : AlGT => z.1) e
  have e2 : tabsB h.get? tf (frT h.get? (asW h.get? n)) = true := congrArg (fun z : AlGT => z.2) e
  have key : ∀ p ∈ tf, PySem.W.codeHdIn (frT h.get? (asW h.get? n)) (cTA (frT h.get? (asW h.get? n)) p).1 (cTA (frT h.get? (asW h.get? n)) p).2 = true ∧ ∃ o, h.get? (cTA (frT h.get? (asW h.get? n)) p).2 = some o ∧ emptyTab o = true := fun p hp => by
    obtain ⟨h3, h4⟩ := ba (List.all_eq_true.mp e2 p hp)
    refine ⟨h3, ?_⟩
    cases q : h.get? (cTA (frT h.get? (asW h.get? n)) p).2 with
    | none =>
      rw [q] at h4
      cases h4
    | some o =>
      rw [q] at h4
      exact ⟨o, rfl, h4⟩
  exact ⟨e1, fun p hp => (key p hp).1, fun p hp => by
    obtain ⟨_, o, q, z⟩ := key p hp
    exact frT_none q z, fun p hp => by
    obtain ⟨_, o, q, z⟩ := key p hp
    rw [q, emptyTab_eq z]⟩
def hookT (n : Nat) (fa : List Fa) (fn : List GD) (tf : List At) (ex : PySem.W.Frag → Bool) : PySem.W.Hook where
  α := AlGT
  obs := fun s => obsGT n fa fn tf ex s.heap.get?
  val := fun _ => (valG fn, true)
  says := fun _ h => ∃ K : PySem.W.Frag, K.In h ∧ SaysGT fa fn tf ex h K
  of := fun _ _ e => ⟨_, frT_in, saysGT_of e⟩
  keeps := fun _ _ _ ⟨K, hK, c⟩ k => ⟨K, PySem.W.Frag.In.keeps hK k, ⟨c.g, c.hd, c.out, fun p hp => k _ _ (c.empty p hp)⟩⟩
theorem obsGT_eq {n : Nat} {fa : List Fa} {fn : List GD} {tf : List At} {ex : PySem.W.Frag → Bool} {g : Addr → Option Obj} {s : Shared} (h : ∀ a, g a = s.heap.get? a) : obsGT n fa fn tf ex g = (hookT n fa fn tf ex).obs s := by
  have e : g = s.heap.get? := funext h
  rw [e] <;> rfl
/-- a table at the start -/
theorem tabG0 {H : Hp} {P : Addr} (h : H P = some (.tbl #[])) : GxR.TabG H P := ⟨#[], h, True.intro⟩
end HookT

set_option Elab.async false
set_option linter.all false
set_option maxRecDepth 100000
set_option maxHeartbeats 2000000
/-! // by an int of any size, where the quotient is not too great: fewer than 4500 bits -/
namespace FDivQ
open PySem PySem.Spec PyProof.Rows L2
theorem noPylong_quot {x y : Int} (h : x.natAbs.log2 ≤ y.natAbs.log2 + 4470) : Builtin.divisionGoesByPylong x y = false := by
  show (decide ((if y == 0 then 0 else y.natAbs.log2 / 30 + 1) > 300) && decide ((if x == 0 then 0 else x.natAbs.log2 / 30 + 1) > (if y == 0 then 0 else y.natAbs.log2 / 30 + 1) + 150)) = false
  by_cases hy : (y == 0) = true
  · rw [if_pos hy]
    rfl
  · rw [if_neg hy]
    by_cases hx : (x == 0) = true
    · rw [if_pos hx]
      simp
    · rw [if_neg hx]
      have : ¬ (x.natAbs.log2 / 30 + 1 > y.natAbs.log2 / 30 + 1 + 150) := by omega
      rw [decide_eq_false this, Bool.and_false]
/-- a divisor other than 0 of fewer than 9000 bits, or a quotient of fewer than some 4470 -/
def CDivQ (i j : Int) : Prop := j ≠ 0 ∧ (j.natAbs.log2 < 9000 ∨ i.natAbs.log2 ≤ j.natAbs.log2 + 4470)
theorem op_fdivQ {X : Cx} : OpR X (binaryOp .FloorDiv) (rI CDivQ fun i j => .int (i.fdiv j)) := opI fun i j _ _ _ _ _ hc q =>
  floordiv_int hc.1 q (.inl (hc.2.elim PyProof.noPylong_of_log2 noPylong_quot))
/-- an exact quotient below 2 ^ 4470 -/
theorem CDivQ.exact {i j q : Int} (hj : j ≠ 0) (e : i = q * j) (hq : q.natAbs < 2 ^ 4470) : CDivQ i j := by
  refine ⟨hj, .inr ?_⟩
  by_cases h0 : i.natAbs = 0
  · rw [h0, Nat.log2_zero]
    exact Nat.zero_le _
  · have h1 : j.natAbs ≠ 0 := by omega
    have h2 : i.natAbs < 2 ^ (4470 + (j.natAbs.log2 + 1)) := by
      rw [e, Int.natAbs_mul, Nat.pow_add]
      exact Nat.mul_lt_mul'' hq Nat.lt_log2_self
    have := (Nat.log2_lt h0).mpr h2
    omega
end FDivQ

set_option Elab.async false
set_option linter.all false
/-! list(xs) of a list or a tuple, the fragment named (for comprehensions) -/
namespace ListOf
open PySem PySem.Spec PyProof.Rows L2
def rListOf (K : PySem.W.Frag) : List V → Hp → VK → Prop := fun xs H Q => ∃ p ys, xs = [V.ref p] ∧ (SqL K H p ys ∨ SqT K H p ys) ∧ ∀ l, H l = none → Q (.ref l) (upd H l (.lst ys))
theorem call_list_ofK {X : Cx} {K : PySem.W.Frag} (e : X.K = K) : CallR X (.type "list") (rListOf K) := by
  subst e
  exact call_list_of
end ListOf

set_option Elab.async false
set_option linter.all false
/-! linear algebra over the integers, up to factors: spans, independence, numbers of rows -/
namespace LA
/-- sums -/
def S : Nat → (Nat → Int) → Int
  | 0, _ => 0
  | n + 1, f => S n f + f n
theorem S_congr {f g : Nat → Int} : ∀ {n : Nat}, (∀ i, i < n → f i = g i) → S n f = S n g
  | 0, _ => rfl
  | n + 1, h => by
    show S n f + f n = S n g + g n
    rw [S_congr fun i hi => h i (Nat.lt_succ_of_lt hi), h n (Nat.lt_succ_self n)]
theorem S_zero {f : Nat → Int} {n : Nat} (h : ∀ i, i < n → f i = 0) : S n f = 0 := by
  induction n with
  | zero => rfl
  | succ n ih =>
    show S n f + f n = 0
    rw [ih fun i hi => h i (Nat.lt_succ_of_lt hi), h n (Nat.lt_succ_self n)]
    rfl
theorem S_add (f g : Nat → Int) : ∀ n, S n (fun i => f i + g i) = S n f + S n g
  | 0 => rfl
  | n + 1 => by
    show S n _ + (f n + g n) = (S n f + f n) + (S n g + g n)
    rw [S_add f g n]
    omega
theorem S_mul (c : Int) (f : Nat → Int) : ∀ n, S n (fun i => c * f i) = c * S n f
  | 0 => (Int.mul_zero c).symm
  | n + 1 => by
    show S n _ + c * f n = c * (S n f + f n)
    rw [S_mul c f n, Int.mul_add]
theorem S_mulr (c : Int) (f : Nat → Int) (n : Nat) : S n (fun i => f i * c) = S n f * c := by
  rw [Int.mul_comm (S n f) c, ← S_mul c f n]
  exact S_congr fun i _ => Int.mul_comm _ _
theorem S_swap (f : Nat → Nat → Int) (m : Nat) : ∀ n, S n (fun i => S m (fun k => f i k)) = S m (fun k => S n (fun i => f i k))
  | 0 => (S_zero fun i _ => rfl).symm
  | n + 1 => by
    show S n _ + S m _ = _
    rw [S_swap f m n, ← S_add]
    rfl
/-- one alone -/
theorem S_one {f : Nat → Int} {n p : Nat} (hp : p < n) (h : ∀ i, i < n → i ≠ p → f i = 0) : S n f = f p := by
  induction n with
  | zero => exact absurd hp (Nat.not_lt_zero _)
  | succ n ih =>
    show S n f + f n = f p
    by_cases c : p = n
    · subst c
      rw [S_zero fun i hi => h i (Nat.lt_succ_of_lt hi) (Nat.ne_of_lt hi), Int.zero_add]
    · rw [ih (by omega) fun i hi hne => h i (Nat.lt_succ_of_lt hi) hne, h n (Nat.lt_succ_self n) (Ne.symm c), Int.add_zero]
/-- all but one: i, or i + 1 from p on -/
def sk (p i : Nat) : Nat := if i < p then i else i + 1
theorem S_skip (f : Nat → Int) (p : Nat) : ∀ n, p ≤ n → S (n + 1) f = f p + S n fun i => f (sk p i)
  | 0, h => by
    have : p = 0 := by omega
    subst this
    show 0 + f 0 = f 0 + 0
    omega
  | n + 1, h => by
    by_cases c : p = n + 1
    · subst c
      show S (n + 1) f + f (n + 1) = _
      rw [Int.add_comm]
      congr 1
      exact S_congr fun i hi => by
        unfold sk
        rw [if_pos hi]
    · show S (n + 1) f + f (n + 1) = f p + (S n (fun i => f (sk p i)) + f (sk p n))
      rw [S_skip f p n (by omega), show sk p n = n + 1 by unfold sk; rw [if_neg (by omega)]]
      omega
/-- more vectors than columns: they hang on one another -/
theorem dep : ∀ (m n : Nat) (x : Nat → Nat → Int), m < n → ∃ y : Nat → Int, (∃ i, i < n ∧ y i ≠ 0) ∧ ∀ j, j < m → S n (fun i => y i * x i j) = 0
  | 0, n, x, h => ⟨fun _ => 1, ⟨0, h, by decide⟩, fun j hj => absurd hj (Nat.not_lt_zero _)⟩
  | m + 1, n, x, h => by
    by_cases c : ∀ i, i < n → x i m = 0
    · obtain ⟨y, hy, he⟩ := dep m n x (by omega)
      refine ⟨y, hy, fun j hj => ?_⟩
      by_cases e : j = m
      · subst e
        exact S_zero fun i hi => by rw [c i hi, Int.mul_zero]
      · exact he j (by omega)
    · obtain ⟨p, hp⟩ := Classical.not_forall.mp c
      obtain ⟨hpn, hp0⟩ : p < n ∧ x p m ≠ 0 := ⟨Classical.byContradiction fun z => hp fun a => absurd a z, fun z => hp fun _ => z⟩
      obtain ⟨n', rfl⟩ : ∃ n', n = n' + 1 := ⟨n - 1, by omega⟩
      obtain ⟨y, ⟨i0, hi0, hy0⟩, he⟩ := dep m n' (fun i j => x p m * x (sk p i) j - x (sk p i) m * x p j) (by omega)
      have back : ∀ i, (if sk p i < p then sk p i else sk p i - 1) = i ∧ sk p i ≠ p := fun i => by
        unfold sk
        by_cases z : i < p
        · rw [if_pos z, if_pos z]
          exact ⟨rfl, by omega⟩
        · rw [if_neg z, if_neg (by omega)]
          exact ⟨by omega, by omega⟩
      let Y : Nat → Int := fun k => if k = p then - S n' (fun i => y i * x (sk p i) m) else x p m * y (if k < p then k else k - 1)
      have Yp : Y p = - S n' (fun i => y i * x (sk p i) m) := if_pos rfl
      have Ys : ∀ i, Y (sk p i) = x p m * y i := fun i => by
        show (if sk p i = p then _ else _) = _
        rw [if_neg (back i).2, (back i).1]
      refine ⟨Y, ⟨sk p i0, by unfold sk; split <;> omega, by rw [Ys]; exact Int.mul_ne_zero hp0 hy0⟩, fun j hj => ?_⟩
      have e0 : S n' (fun i => Y (sk p i) * x (sk p i) j) = S n' (fun i => x p m * y i * x (sk p i) j) := S_congr fun i _ => by rw [Ys i]
      rw [S_skip _ p n' (by omega), e0]
      show Y p * x p j + _ = 0
      rw [Yp]
      have e1 : S n' (fun i => x p m * y i * x (sk p i) j) = S n' (fun i => y i * (x p m * x (sk p i) j - x (sk p i) m * x p j)) + S n' (fun i => y i * x (sk p i) m) * x p j := by
        rw [← S_mulr, ← S_add]
        exact S_congr fun i _ => by grind
      rw [e1]
      by_cases e : j = m
      · subst e
        rw [S_zero (f := fun i => y i * (x p j * x (sk p i) j - x (sk p i) j * x p j)) fun i _ => by rw [Int.mul_comm (x p j), Int.sub_self, Int.mul_zero]]
        grind
      · rw [he j (by omega)]
        grind
/-- v, times a number other than 0, is a sum of multiples of m rows -/
def Sp (w m : Nat) (B : Nat → Nat → Int) (v : Nat → Int) : Prop := ∃ c : Int, c ≠ 0 ∧ ∃ a : Nat → Int, ∀ j, j < w → c * v j = S m (fun k => a k * B k j)
def Ind (w n : Nat) (A : Nat → Nat → Int) : Prop := ∀ a : Nat → Int, (∀ j, j < w → S n (fun i => a i * A i j) = 0) → ∀ i, i < n → a i = 0
/-- independent rows are not more than rows whose span holds them -/
theorem steinitz {w n m : Nat} {A B : Nat → Nat → Int} (hI : Ind w n A) (h : ∀ i, i < n → Sp w m B (A i)) : n ≤ m := by
  by_cases c : n ≤ m
  · exact c
  · exfalso
    have h' : ∀ i, ∃ c : Int, i < n → c ≠ 0 ∧ ∃ a : Nat → Int, ∀ j, j < w → c * A i j = S m (fun k => a k * B k j) := fun i => by
      by_cases hi : i < n
      · obtain ⟨c, hc, a, ha⟩ := h i hi
        exact ⟨c, fun _ => ⟨hc, a, ha⟩⟩
      · exact ⟨0, fun z => absurd z hi⟩
    obtain ⟨C, hC⟩ := Classical.axiomOfChoice h'
    have h2 : ∀ i, ∃ a : Nat → Int, i < n → ∀ j, j < w → C i * A i j = S m (fun k => a k * B k j) := fun i => by
      by_cases hi : i < n
      · obtain ⟨_, a, ha⟩ := hC i hi
        exact ⟨a, fun _ => ha⟩
      · exact ⟨fun _ => 0, fun z => absurd z hi⟩
    obtain ⟨a, ha⟩ := Classical.axiomOfChoice h2
    obtain ⟨y, ⟨i0, hi0, hy⟩, he⟩ := dep m n a (by omega)
    have z := hI (fun i => y i * C i) (fun j hj => by
      have e1 : S n (fun i => y i * C i * A i j) = S n (fun i => S m (fun k => y i * a i k * B k j)) := S_congr fun i hi => by
        rw [Int.mul_assoc, ha i hi j hj, ← S_mul]
        exact S_congr fun k _ => by rw [Int.mul_assoc]
      rw [e1, S_swap]
      exact S_zero fun k hk => by rw [S_mulr, he k hk, Int.zero_mul]) i0 hi0
    exact Int.mul_ne_zero hy (hC i0 hi0).1 z
theorem Sp.own {w m : Nat} {B : Nat → Nat → Int} {k : Nat} (hk : k < m) : Sp w m B (B k) := ⟨1, by decide, fun i => if i = k then 1 else 0, fun j _ => by
  rw [Int.one_mul, S_one hk fun i _ hne => by
    show (if i = k then (1 : Int) else 0) * B i j = 0
    rw [if_neg hne, Int.zero_mul]]
  show B k j = (if k = k then (1 : Int) else 0) * B k j
  rw [if_pos rfl, Int.one_mul]⟩
theorem Sp.zero {w m : Nat} {B : Nat → Nat → Int} {v : Nat → Int} (h : ∀ j, j < w → v j = 0) : Sp w m B v := ⟨1, by decide, fun _ => 0, fun j hj => by
  rw [h j hj, S_zero fun i _ => Int.zero_mul _]
  rfl⟩
theorem Sp.lin {w m : Nat} {B : Nat → Nat → Int} {u v : Nat → Int} (α β : Int) (h : Sp w m B u) (g : Sp w m B v) : Sp w m B fun j => α * u j + β * v j := by
  obtain ⟨c, hc, a, ha⟩ := h
  obtain ⟨d, hd, b, hb⟩ := g
  refine ⟨c * d, Int.mul_ne_zero hc hd, fun k => α * d * a k + β * c * b k, fun j hj => ?_⟩
  have e : S m (fun k => (α * d * a k + β * c * b k) * B k j) = α * d * S m (fun k => a k * B k j) + β * c * S m (fun k => b k * B k j) := by
    rw [← S_mul, ← S_mul, ← S_add]
    exact S_congr fun k _ => by grind
  rw [e, ← ha j hj, ← hb j hj]
  grind
theorem Sp.div {w m : Nat} {B : Nat → Nat → Int} {u v : Nat → Int} {c : Int} (hc : c ≠ 0) (h : Sp w m B u) (e : ∀ j, j < w → c * v j = u j) : Sp w m B v := by
  obtain ⟨d, hd, a, ha⟩ := h
  exact ⟨d * c, Int.mul_ne_zero hd hc, a, fun j hj => by rw [Int.mul_assoc, e j hj]; exact ha j hj⟩
theorem Sp.sum {w m' : Nat} {B B' : Nat → Nat → Int} (a : Nat → Int) : ∀ {m : Nat}, (∀ k, k < m → Sp w m' B' (B k)) → Sp w m' B' fun j => S m (fun k => a k * B k j)
  | 0, _ => .zero fun j _ => rfl
  | m + 1, h => by
    have q := Sp.lin 1 (a m) (Sp.sum a fun k hk => h k (Nat.lt_succ_of_lt hk)) (h m (Nat.lt_succ_self m))
    exact .div (c := 1) (by decide) q fun j _ => by rw [Int.one_mul, Int.one_mul]; rfl
/-- what is in the span of rows that are in a span -/
theorem Sp.trans {w m m' : Nat} {B B' : Nat → Nat → Int} {v : Nat → Int} (h : Sp w m B v) (g : ∀ k, k < m → Sp w m' B' (B k)) : Sp w m' B' v := by
  obtain ⟨c, hc, a, ha⟩ := h
  exact .div hc (Sp.sum a g) ha
/-- one factor for all -/
theorem common {w r : Nat} {E A : Nat → Nat → Int} : ∀ {n : Nat}, (∀ i, i < n → Sp w r E (A i)) → ∃ c : Int, c ≠ 0 ∧ ∃ a : Nat → Nat → Int, ∀ i, i < n → ∀ j, j < w → c * A i j = S r (fun k => a i k * E k j)
  | 0, _ => ⟨1, by decide, fun _ _ => 0, fun i hi => absurd hi (Nat.not_lt_zero _)⟩
  | n + 1, h => by
    obtain ⟨c, hc, a, ha⟩ := common (n := n) fun i hi => h i (Nat.lt_succ_of_lt hi)
    obtain ⟨d, hd, b, hb⟩ := h n (Nat.lt_succ_self n)
    refine ⟨c * d, Int.mul_ne_zero hc hd, fun i k => if i = n then c * b k else d * a i k, fun i hi j hj => ?_⟩
    by_cases e : i = n
    · subst e
      rw [S_congr (g := fun k => c * (b k * E k j)) fun k _ => by
        show (if i = i then c * b k else d * a i k) * E k j = _
        rw [if_pos rfl, Int.mul_assoc], S_mul, ← hb j hj, Int.mul_assoc]
    · rw [S_congr (g := fun k => d * (a i k * E k j)) fun k _ => by
        show (if i = n then c * b k else d * a i k) * E k j = _
        rw [if_neg e, Int.mul_assoc], S_mul, ← ha i (by omega) j hj, Int.mul_comm c d, Int.mul_assoc]
/-- rows with leads: E i is the only one that is not 0 at its lead -/
structure Ech (w r : Nat) (E : Nat → Nat → Int) (lead : Nat → Nat) : Prop where
  lt : ∀ i, i < r → lead i < w
  nz : ∀ i, i < r → E i (lead i) ≠ 0
  z : ∀ i k, i < r → k < r → k ≠ i → E k (lead i) = 0
theorem Ech.ind {w r : Nat} {E : Nat → Nat → Int} {lead : Nat → Nat} (h : Ech w r E lead) : Ind w r E := fun a ha i hi => by
  have e := ha (lead i) (h.lt i hi)
  rw [S_one hi fun k hk hne => by rw [h.z i k hi hk hne, Int.mul_zero]] at e
  rcases Int.mul_eq_zero.mp e with z | z
  · exact z
  · exact absurd z (h.nz i hi)
/-- the rows of A have the base E -/
structure Base (w n : Nat) (A : Nat → Nat → Int) (r : Nat) (E : Nat → Nat → Int) : Prop where
  ind : Ind w r E
  of : ∀ k, k < r → Sp w n A (E k)
  to : ∀ i, i < n → Sp w r E (A i)
theorem Base.same {w n r r' : Nat} {A E E' : Nat → Nat → Int} (h : Base w n A r E) (g : Base w n A r' E') : r = r' :=
  Nat.le_antisymm (steinitz h.ind fun k hk => (h.of k hk).trans g.to) (steinitz g.ind fun k hk => (g.of k hk).trans h.to)
/-- columns have no greater number -/
theorem Base.col {w n r r' : Nat} {A E E' : Nat → Nat → Int} (h : Base w n A r E) (g : Base n w (fun j i => A i j) r' E') : r' ≤ r := by
  obtain ⟨c, hc, a, ha⟩ := common h.to
  refine steinitz g.ind fun k hk => (g.of k hk).trans (B' := fun k i => a i k) fun j hj => ⟨c, hc, fun k => E k j, fun i hi => ?_⟩
  rw [ha i hi j hj]
  exact S_congr fun k _ => Int.mul_comm _ _
theorem Base.turned {w n r r' : Nat} {A E E' : Nat → Nat → Int} (h : Base w n A r E) (g : Base n w (fun j i => A i j) r' E') : r = r' :=
  Nat.le_antisymm (g.col h) (h.col g)
/-- rows that are sums of multiples of others -/
theorem Base.le {w n m r r' : Nat} {A B E E' : Nat → Nat → Int} (h : Base w n A r E) (g : Base w m B r' E') (s : ∀ i, i < n → Sp w m B (A i)) : r ≤ r' :=
  steinitz h.ind fun k hk => ((h.of k hk).trans s).trans g.to
/-- products -/
theorem Base.prod_right {u v w r r' : Nat} {A B E E' : Nat → Nat → Int} (h : Base w u (fun i j => S v fun k => A i k * B k j) r E) (g : Base w v B r' E') : r ≤ r' :=
  h.le g fun i _ => ⟨1, by decide, fun k => A i k, fun j _ => Int.one_mul _⟩
theorem Base.ind_all {w n r : Nat} {A E : Nat → Nat → Int} (h : Base w n A r E) (hA : Ind w n A) : r = n :=
  Nat.le_antisymm (steinitz h.ind h.of) (steinitz hA h.to)
/-- what is 0 on rows is 0 on their span -/
theorem Sp.perp {w m : Nat} {B : Nat → Nat → Int} {v x : Nat → Int} (h : Sp w m B v) (hz : ∀ k, k < m → S w (fun j => x j * B k j) = 0) : S w (fun j => x j * v j) = 0 := by
  obtain ⟨c, hc, a, ha⟩ := h
  have e : c * S w (fun j => x j * v j) = 0 := by
    rw [← S_mul, S_congr (g := fun j => S m (fun k => a k * (x j * B k j))) fun j hj => by
      rw [← Int.mul_assoc, Int.mul_comm c, Int.mul_assoc, ha j hj, ← S_mul]
      exact S_congr fun k _ => by rw [← Int.mul_assoc, Int.mul_comm (x j), Int.mul_assoc], S_swap]
    exact S_zero fun k hk => by rw [S_mul, hz k hk, Int.mul_zero]
  exact (Int.mul_eq_zero.mp e).resolve_left hc
end LA

set_option Elab.async false
set_option linter.all false
/-! small solutions: more small rows than columns hang on one another by small factors -/
namespace LA
theorem pigeon : ∀ (N : Nat) (f : Nat → Nat), (∀ i, i < N + 1 → f i < N) → ∃ i j, i < j ∧ j < N + 1 ∧ f i = f j
  | 0, f, h => absurd (h 0 (Nat.lt_succ_self 0)) (Nat.not_lt_zero _)
  | N + 1, f, h => by
    by_cases c : ∃ i, i < N + 1 ∧ f i = f (N + 1)
    · obtain ⟨i, hi, e⟩ := c
      exact ⟨i, N + 1, hi, Nat.lt_succ_self _, e⟩
    · have ne : ∀ i, i < N + 1 → f i ≠ f (N + 1) := fun i hi e => c ⟨i, hi, e⟩
      have hl := h (N + 1) (Nat.lt_succ_self _)
      obtain ⟨i, j, hij, hj, e⟩ := pigeon N (fun i => if f i < f (N + 1) then f i else f i - 1) (fun i hi => by
        have h1 := ne i hi
        have h2 := h i (by omega)
        show (if f i < f (N + 1) then f i else f i - 1) < N
        split <;> omega)
      refine ⟨i, j, hij, by omega, ?_⟩
      have h1 := ne i (by omega)
      have h2 := ne j hj
      have e : (if f i < f (N + 1) then f i else f i - 1) = (if f j < f (N + 1) then f j else f j - 1) := e
      split at e <;> split at e <;> omega
/-- digits put together -/
def enc (b : Nat) : Nat → (Nat → Nat) → Nat
  | 0, _ => 0
  | n + 1, g => enc b n g + b ^ n * g n
theorem enc_lt {b : Nat} : ∀ {n : Nat} {g : Nat → Nat}, (∀ i, i < n → g i < b) → enc b n g < b ^ n
  | 0, g, _ => Nat.zero_lt_one
  | n + 1, g, h => by
    have h1 := enc_lt (n := n) fun i hi => h i (Nat.lt_succ_of_lt hi)
    have h2 := h n (Nat.lt_succ_self n)
    show enc b n g + b ^ n * g n < b ^ (n + 1)
    have h3 : b ^ n * (g n + 1) ≤ b ^ n * b := Nat.mul_le_mul_left _ h2
    have h4 : b ^ (n + 1) = b ^ n * b := rfl
    rw [Nat.mul_add, Nat.mul_one] at h3
    omega
theorem enc_inj {b : Nat} : ∀ {n : Nat} {f g : Nat → Nat}, (∀ i, i < n → f i < b) → (∀ i, i < n → g i < b) → enc b n f = enc b n g → ∀ i, i < n → f i = g i
  | 0, _, _, _, _, _ => fun i hi => absurd hi (Nat.not_lt_zero _)
  | n + 1, f, g, hf, hg, e => by
    have h1 := enc_lt (n := n) fun i hi => hf i (Nat.lt_succ_of_lt hi)
    have h2 := enc_lt (n := n) fun i hi => hg i (Nat.lt_succ_of_lt hi)
    have e : enc b n f + b ^ n * f n = enc b n g + b ^ n * g n := e
    have p : 0 < b ^ n := by omega
    have e1 : enc b n f = enc b n g := by
      have q : (enc b n f + b ^ n * f n) % b ^ n = (enc b n g + b ^ n * g n) % b ^ n := by rw [e]
      rwa [Nat.add_mul_mod_self_left, Nat.add_mul_mod_self_left, Nat.mod_eq_of_lt h1, Nat.mod_eq_of_lt h2] at q
    have e2 : f n = g n := Nat.eq_of_mul_eq_mul_left p (by omega)
    intro i hi
    by_cases c : i = n
    · rw [c]; exact e2
    · exact enc_inj (fun i hi => hf i (Nat.lt_succ_of_lt hi)) (fun i hi => hg i (Nat.lt_succ_of_lt hi)) e1 i (by omega)
theorem enc_dig (b t : Nat) : ∀ n, enc b n (fun i => t / b ^ i % b) = t % b ^ n
  | 0 => by
    show 0 = t % 1
    rw [Nat.mod_one]
  | n + 1 => by
    show enc b n _ + b ^ n * (t / b ^ n % b) = t % (b ^ n * b)
    rw [enc_dig b t n, Nat.mod_mul]
theorem S_abs {f : Nat → Int} {n : Nat} {B : Nat} (h : ∀ i, i < n → (f i).natAbs ≤ B) : (S n f).natAbs ≤ n * B := by
  induction n with
  | zero => exact Nat.zero_le _
  | succ n ih =>
    have h1 := ih fun i hi => h i (Nat.lt_succ_of_lt hi)
    have h2 := h n (Nat.lt_succ_self n)
    show (S n f + f n).natAbs ≤ (n + 1) * B
    have h3 := Int.natAbs_add_le (S n f) (f n)
    rw [Nat.succ_mul]
    omega
theorem siegel (m M : Nat) (x : Nat → Nat → Int) (hx : ∀ i, i < m + 1 → ∀ j, j < m → (x i j).natAbs ≤ M) :
    ∃ y : Nat → Int, (∃ i, i < m + 1 ∧ y i ≠ 0) ∧ (∀ i, (y i).natAbs ≤ (2 * (m + 1) * M + 1) ^ m) ∧ ∀ j, j < m → S (m + 1) (fun i => y i * x i j) = 0 := by
  generalize hY : (2 * (m + 1) * M + 1) ^ m = Y
  let d : Nat → Nat → Nat := fun t i => t / (Y + 1) ^ i % (Y + 1)
  have dl : ∀ t i, d t i < Y + 1 := fun t i => Nat.mod_lt _ (Nat.succ_pos _)
  let s : Nat → Nat → Int := fun t j => S (m + 1) fun i => (d t i : Int) * x i j
  have sb : ∀ t j, j < m → (s t j).natAbs ≤ (m + 1) * (Y * M) := fun t j hj => S_abs fun i hi => by
    rw [Int.natAbs_mul, Int.natAbs_natCast]
    exact Nat.mul_le_mul (Nat.le_of_lt_succ (dl t i)) (hx i hi j hj)
  generalize hC : (m + 1) * (Y * M) = C at sb
  let g : Nat → Nat → Nat := fun t j => (s t j + C).toNat
  have gl : ∀ t j, j < m → g t j < 2 * C + 1 := fun t j hj => by
    have := sb t j hj
    show (s t j + C).toNat < _
    omega
  have hW : (2 * C + 1) ^ m < (Y + 1) ^ (m + 1) := by
    have h1 : 2 * C + 1 ≤ (2 * (m + 1) * M + 1) * (Y + 1) := by
      have : 2 * C = 2 * (m + 1) * M * Y := by
        rw [← hC, Nat.mul_comm Y M, ← Nat.mul_assoc, ← Nat.mul_assoc]
      rw [this]
      generalize 2 * (m + 1) * M = q
      rw [Nat.add_mul, Nat.mul_add, Nat.one_mul, Nat.mul_one]
      omega
    have h2 := Nat.pow_le_pow_left h1 m
    rw [Nat.mul_pow, hY] at h2
    have h3 : 0 < (Y + 1) ^ m := Nat.pow_pos (Nat.succ_pos _)
    have h4 : (Y + 1) ^ (m + 1) = (Y + 1) ^ m * (Y + 1) := rfl
    rw [h4, Nat.mul_add, Nat.mul_one, Nat.mul_comm _ Y]
    omega
  obtain ⟨t, t', ht, ht', e⟩ := pigeon ((2 * C + 1) ^ m) (fun t => enc (2 * C + 1) m (g t)) fun t _ => enc_lt (gl t)
  have eg := enc_inj (gl t) (gl t') e
  refine ⟨fun i => (d t i : Int) - d t' i, ?_, fun i => ?_, fun j hj => ?_⟩
  · refine Classical.byContradiction fun c => ?_
    have same : ∀ i, i < m + 1 → d t i = d t' i := fun i hi => Classical.byContradiction fun z => c ⟨i, hi, by
      show (d t i : Int) - d t' i ≠ 0
      omega⟩
    have e1 := enc_dig (Y + 1) t (m + 1)
    have e2 := enc_dig (Y + 1) t' (m + 1)
    rw [Nat.mod_eq_of_lt (by omega)] at e1 e2
    have e3 : ∀ n, n ≤ m + 1 → enc (Y + 1) n (d t) = enc (Y + 1) n (d t') := fun n => by
      induction n with
      | zero => exact fun _ => rfl
      | succ n ih =>
        intro hn
        show enc (Y + 1) n (d t) + _ * d t n = enc (Y + 1) n (d t') + _ * d t' n
        rw [ih (by omega), same n (by omega)]
    have := e3 (m + 1) (Nat.le_refl _)
    have e1 : enc (Y + 1) (m + 1) (d t) = t := e1
    have e2 : enc (Y + 1) (m + 1) (d t') = t' := e2
    omega
  · have h1 := dl t i
    have h2 := dl t' i
    show ((d t i : Int) - d t' i).natAbs ≤ Y
    omega
  · have e1 : s t j = s t' j := by
      have q := eg j hj
      have h1 := sb t j hj
      have h2 := sb t' j hj
      have q : (s t j + C).toNat = (s t' j + C).toNat := q
      omega
    have e2 : S (m + 1) (fun i => ((d t i : Int) - d t' i) * x i j) = s t j + (-1) * s t' j := by
      show _ = S (m + 1) (fun i => (d t i : Int) * x i j) + (-1) * S (m + 1) (fun i => (d t' i : Int) * x i j)
      rw [← S_mul, ← S_add]
      exact S_congr fun i _ => by grind
    rw [e2, e1]
    omega
end LA

set_option Elab.async false
set_option linter.all false
set_option maxRecDepth 100000
set_option maxHeartbeats 4000000
namespace K01
open PySem PySem.Spec PyProof.Rows L2 SlX OwnR OwnF
theorem hu64 {k : Nat} {A : Around} (hr : Room k A) : A.units + 64 < cLine := hr.units
theorem same_upd0 {H : Hp} {p : Addr} {o : HO} (h : H p = none) : Same H (upd H p o) := fun b x e => by
  rw [upd_ne (ne_of_none e h)]
  exact e
def topS (i : Nat) : Stmt := PySem.Challenge.pw_sourceforms_k01_whole_echelons_and_kerne.main.body.getD i (.Pass ⟨0, 0, 0, 0⟩)
abbrev FnP (K : PySem.W.Frag) (x : Str) (st : Stmt) (f : Addr) (fd : FuncData) : Prop := FunD K x x (defArgs st) (defBody st) (defScope st) [] [] f fd
abbrev s_is_whole : Stmt := topS 7
abbrev N_is_whole : List Str := ["value"]
theorem sc_is_whole : FnScope N_is_whole ["value"] (defScope s_is_whole) := ⟨rfl, rfl, rfl, by decide +kernel, rfl, by decide +kernel, by decide +kernel⟩
abbrev s_is_short : Stmt := topS 8
abbrev N_is_short : List Str := ["value"]
theorem sc_is_short : FnScope N_is_short ["value"] (defScope s_is_short) := ⟨rfl, rfl, rfl, by decide +kernel, rfl, by decide +kernel, by decide +kernel⟩
abbrev s_shared_of : Stmt := topS 9
abbrev N_shared_of : List Str := ["numbers", "found", "number"]
theorem sc_shared_of : FnScope N_shared_of ["numbers"] (defScope s_shared_of) := ⟨rfl, rfl, rfl, by decide +kernel, rfl, by decide +kernel, by decide +kernel⟩
abbrev s_first_of : Stmt := topS 10
abbrev N_first_of : List Str := ["numbers"]
theorem sc_first_of : FnScope N_first_of ["numbers"] (defScope s_first_of) := ⟨rfl, rfl, rfl, by decide +kernel, rfl, by decide +kernel, by decide +kernel⟩
abbrev s_primitive_of : Stmt := topS 11
abbrev N_primitive_of : List Str := ["numbers", "part", "number"]
theorem sc_primitive_of : FnScope N_primitive_of ["numbers"] (defScope s_primitive_of) := ⟨rfl, rfl, rfl, by decide +kernel, rfl, by decide +kernel, by decide +kernel⟩
abbrev s_less_head : Stmt := topS 14
abbrev N_less_head : List Str := ["row", "head", "place", "one", "other", "part", "found", "entry", "taken", "shared"]
theorem sc_less_head : FnScope N_less_head ["row", "head", "place"] (defScope s_less_head) := ⟨rfl, rfl, rfl, by decide +kernel, rfl, by decide +kernel, by decide +kernel⟩
abbrev s_echelon_rows : Stmt := topS 15
abbrev N_echelon_rows : List Str := ["rows", "width", "left", "found", "row", "place", "heads", "at", "head"]
theorem sc_echelon_rows : FnScope N_echelon_rows ["rows", "width"] (defScope s_echelon_rows) := ⟨rfl, rfl, rfl, by decide +kernel, rfl, by decide +kernel, by decide +kernel⟩
abbrev s_lead_of : Stmt := topS 16
abbrev N_lead_of : List Str := ["row", "at", "entry"]
theorem sc_lead_of : FnScope N_lead_of ["row"] (defScope s_lead_of) := ⟨rfl, rfl, rfl, by decide +kernel, rfl, by decide +kernel, by decide +kernel⟩
abbrev s_rank_of : Stmt := topS 17
abbrev N_rank_of : List Str := ["rows", "width"]
theorem sc_rank_of : FnScope N_rank_of ["rows", "width"] (defScope s_rank_of) := ⟨rfl, rfl, rfl, by decide +kernel, rfl, by decide +kernel, by decide +kernel⟩
abbrev s_kernel_rows : Stmt := topS 18
abbrev N_kernel_rows : List Str := ["rows", "width", "told", "found", "leads", "row", "whole", "lead", "free", "place", "one"]
theorem sc_kernel_rows : FnScope N_kernel_rows ["rows", "width"] (defScope s_kernel_rows) := ⟨rfl, rfl, rfl, by decide +kernel, rfl, by decide +kernel, by decide +kernel⟩
abbrev s_product_rows : Stmt := topS 19
abbrev N_product_rows : List Str := ["one", "other", "columns", "found", "row", "entry", "taken", "column"]
theorem sc_product_rows : FnScope N_product_rows ["one", "other"] (defScope s_product_rows) := ⟨rfl, rfl, rfl, by decide +kernel, rfl, by decide +kernel, by decide +kernel⟩
abbrev s_is_table_in : Stmt := topS 20
abbrev N_is_table_in : List Str := ["value", "row", "entry"]
theorem sc_is_table_in : FnScope N_is_table_in ["value"] (defScope s_is_table_in) := ⟨rfl, rfl, rfl, by decide +kernel, rfl, by decide +kernel, by decide +kernel⟩
abbrev s_require_rows : Stmt := topS 21
abbrev N_require_rows : List Str := ["value"]
theorem sc_require_rows : FnScope N_require_rows ["value"] (defScope s_require_rows) := ⟨rfl, rfl, rfl, by decide +kernel, rfl, by decide +kernel, by decide +kernel⟩
abbrev s_is_table : Stmt := topS 22
abbrev N_is_table : List Str := ["value"]
theorem sc_is_table : FnScope N_is_table ["value"] (defScope s_is_table) := ⟨rfl, rfl, rfl, by decide +kernel, rfl, by decide +kernel, by decide +kernel⟩
abbrev s_table_product : Stmt := topS 23
abbrev N_table_product : List Str := ["one", "other"]
theorem sc_table_product : FnScope N_table_product ["one", "other"] (defScope s_table_product) := ⟨rfl, rfl, rfl, by decide +kernel, rfl, by decide +kernel, by decide +kernel⟩
abbrev s_rank : Stmt := topS 24
abbrev N_rank : List Str := ["table"]
theorem sc_rank : FnScope N_rank ["table"] (defScope s_rank) := ⟨rfl, rfl, rfl, by decide +kernel, rfl, by decide +kernel, by decide +kernel⟩
abbrev s_kernel : Stmt := topS 25
abbrev N_kernel : List Str := ["table", "row"]
theorem sc_kernel : FnScope N_kernel ["table"] (defScope s_kernel) := ⟨rfl, rfl, rfl, by decide +kernel, rfl, by decide +kernel, by decide +kernel⟩
abbrev s_law_dice : Stmt := topS 27
abbrev N_law_dice : List Str := ["_law_script", "_law_spot", "_law_cell", "_law_left"]
theorem sc_law_dice : FnScope N_law_dice ["_law_script", "_law_spot"] (defScope s_law_dice) := ⟨rfl, rfl, rfl, by decide +kernel, rfl, by decide +kernel, by decide +kernel⟩
abbrev s_law_roll : Stmt := topS 28
abbrev N_law_roll : List Str := ["_law_dice_here", "_law_total", "_law_found", "_law_one", "_law_two"]
theorem sc_law_roll : FnScope N_law_roll ["_law_dice_here", "_law_total"] (defScope s_law_roll) := ⟨rfl, rfl, rfl, by decide +kernel, rfl, by decide +kernel, by decide +kernel⟩
abbrev s_law_pick : Stmt := topS 29
abbrev N_law_pick : List Str := ["_law_dice_here", "_law_items"]
theorem sc_law_pick : FnScope N_law_pick ["_law_dice_here", "_law_items"] (defScope s_law_pick) := ⟨rfl, rfl, rfl, by decide +kernel, rfl, by decide +kernel, by decide +kernel⟩
abbrev s_law_near : Stmt := topS 30
abbrev N_law_near : List Str := ["_law_dice_here", "_law_most"]
theorem sc_law_near : FnScope N_law_near ["_law_dice_here", "_law_most"] (defScope s_law_near) := ⟨rfl, rfl, rfl, by decide +kernel, rfl, by decide +kernel, by decide +kernel⟩
abbrev s_law_gcd : Stmt := topS 31
abbrev N_law_gcd : List Str := ["_law_one", "_law_other"]
theorem sc_law_gcd : FnScope N_law_gcd ["_law_one", "_law_other"] (defScope s_law_gcd) := ⟨rfl, rfl, rfl, by decide +kernel, rfl, by decide +kernel, by decide +kernel⟩
abbrev s_law_shared : Stmt := topS 32
abbrev N_law_shared : List Str := ["_law_numbers", "_law_found", "_law_number"]
theorem sc_law_shared : FnScope N_law_shared ["_law_numbers"] (defScope s_law_shared) := ⟨rfl, rfl, rfl, by decide +kernel, rfl, by decide +kernel, by decide +kernel⟩
abbrev s_law_plain : Stmt := topS 33
abbrev N_law_plain : List Str := ["_law_form", "_law_part", "_law_first", "_law_entry"]
theorem sc_law_plain : FnScope N_law_plain ["_law_form"] (defScope s_law_plain) := ⟨rfl, rfl, rfl, by decide +kernel, rfl, by decide +kernel, by decide +kernel⟩
abbrev s_law_cleared : Stmt := topS 34
abbrev N_law_cleared : List Str := ["_law_rows", "_law_width", "_law_left", "_law_found", "_law_row", "_law_place", "_law_heads", "_law_at", "_law_head"]
theorem sc_law_cleared : FnScope N_law_cleared ["_law_rows", "_law_width"] (defScope s_law_cleared) := ⟨rfl, rfl, rfl, by decide +kernel, rfl, by decide +kernel, by decide +kernel⟩
abbrev s_law_less : Stmt := topS 35
abbrev N_law_less : List Str := ["_law_row", "_law_head", "_law_place", "_law_one", "_law_other", "_law_part", "_law_found", "_law_entry", "_law_taken", "_law_shared_here"]
theorem sc_law_less : FnScope N_law_less ["_law_row", "_law_head", "_law_place"] (defScope s_law_less) := ⟨rfl, rfl, rfl, by decide +kernel, rfl, by decide +kernel, by decide +kernel⟩
abbrev s_law_rank : Stmt := topS 36
abbrev N_law_rank : List Str := ["_law_rows", "_law_width"]
theorem sc_law_rank : FnScope N_law_rank ["_law_rows", "_law_width"] (defScope s_law_rank) := ⟨rfl, rfl, rfl, by decide +kernel, rfl, by decide +kernel, by decide +kernel⟩
abbrev s_law_leads : Stmt := topS 37
abbrev N_law_leads : List Str := ["_law_rows", "_law_at", "_law_entry", "_law_row"]
theorem sc_law_leads : FnScope N_law_leads ["_law_rows"] (defScope s_law_leads) := ⟨rfl, rfl, rfl, by decide +kernel, rfl, by decide +kernel, by decide +kernel⟩
abbrev s_law_kernel : Stmt := topS 38
abbrev N_law_kernel : List Str := ["_law_rows", "_law_width", "_law_told", "_law_leads_here", "_law_found", "_law_free", "_law_place", "_law_whole", "_law_row", "_law_lead", "_law_one"]
theorem sc_law_kernel : FnScope N_law_kernel ["_law_rows", "_law_width"] (defScope s_law_kernel) := ⟨rfl, rfl, rfl, by decide +kernel, rfl, by decide +kernel, by decide +kernel⟩
abbrev s_law_some_table : Stmt := topS 39
abbrev N_law_some_table : List Str := ["_law_dice_here", "_law_rows", "_law_width", "_law_most", "_law_found", "_law_at", "_law_row", "_law_factor", "_law_entry"]
theorem sc_law_some_table : FnScope N_law_some_table ["_law_dice_here", "_law_rows", "_law_width", "_law_most"] (defScope s_law_some_table) := ⟨rfl, rfl, rfl, by decide +kernel, rfl, by decide +kernel, by decide +kernel⟩
abbrev s_law_matrix : Stmt := topS 40
abbrev N_law_matrix : List Str := ["_law_one", "_law_other", "_law_columns", "_law_row", "_law_at", "_law_found", "_law_a", "_law_b", "_law_column"]
theorem sc_law_matrix : FnScope N_law_matrix ["_law_one", "_law_other"] (defScope s_law_matrix) := ⟨rfl, rfl, rfl, by decide +kernel, rfl, by decide +kernel, by decide +kernel⟩
abbrev s_law_turned : Stmt := topS 41
abbrev N_law_turned : List Str := ["_law_table", "_law_row", "_law_at"]
theorem sc_law_turned : FnScope N_law_turned ["_law_table"] (defScope s_law_turned) := ⟨rfl, rfl, rfl, by decide +kernel, rfl, by decide +kernel, by decide +kernel⟩
abbrev s_law_table_right : Stmt := topS 42
abbrev N_law_table_right : List Str := ["_law_table", "_law_width", "_law_told", "_law_row", "_law_a", "_law_b", "_law_line"]
theorem sc_law_table_right : FnScope N_law_table_right ["_law_table"] (defScope s_law_table_right) := ⟨rfl, rfl, rfl, by decide +kernel, rfl, by decide +kernel, by decide +kernel⟩
abbrev s_law_right : Stmt := topS 43
abbrev N_law_right : List Str := ["_law_dice_here", "_law_most", "_law_rows", "_law_width", "_law_wide", "_law_turn", "_law_one", "_law_other", "_law_both"]
theorem sc_law_right : FnScope N_law_right ["_law_dice_here"] (defScope s_law_right) := ⟨rfl, rfl, rfl, by decide +kernel, rfl, by decide +kernel, by decide +kernel⟩
abbrev s_law : Stmt := topS 44
abbrev N_law : List Str := ["_law_script", "_law_spot", "_law_some", "_law_told"]
theorem sc_law : FnScope N_law ["_law_script"] (defScope s_law) := ⟨rfl, rfl, rfl, by decide +kernel, rfl, by decide +kernel, by decide +kernel⟩
/-- where the defs stand, what the names of the module are -/
structure Facts (K : PySem.W.Frag) (mg : Str → Option Value) where
  f_is_whole : Addr
  fd_is_whole : FuncData
  F_is_whole : FnP K "is_whole" s_is_whole f_is_whole fd_is_whole
  g_is_whole : mg "is_whole" = some (.ref f_is_whole)
  b_is_whole : Binds K fd_is_whole ["value"] []
  f_is_short : Addr
  fd_is_short : FuncData
  F_is_short : FnP K "is_short" s_is_short f_is_short fd_is_short
  g_is_short : mg "is_short" = some (.ref f_is_short)
  b_is_short : Binds K fd_is_short ["value"] []
  f_shared_of : Addr
  fd_shared_of : FuncData
  F_shared_of : FnP K "shared_of" s_shared_of f_shared_of fd_shared_of
  g_shared_of : mg "shared_of" = some (.ref f_shared_of)
  b_shared_of : Binds K fd_shared_of ["numbers"] []
  f_first_of : Addr
  fd_first_of : FuncData
  F_first_of : FnP K "first_of" s_first_of f_first_of fd_first_of
  g_first_of : mg "first_of" = some (.ref f_first_of)
  b_first_of : Binds K fd_first_of ["numbers"] []
  f_primitive_of : Addr
  fd_primitive_of : FuncData
  F_primitive_of : FnP K "primitive_of" s_primitive_of f_primitive_of fd_primitive_of
  g_primitive_of : mg "primitive_of" = some (.ref f_primitive_of)
  b_primitive_of : Binds K fd_primitive_of ["numbers"] []
  f_less_head : Addr
  fd_less_head : FuncData
  F_less_head : FnP K "less_head" s_less_head f_less_head fd_less_head
  g_less_head : mg "less_head" = some (.ref f_less_head)
  b_less_head : Binds K fd_less_head ["row", "head", "place"] []
  f_echelon_rows : Addr
  fd_echelon_rows : FuncData
  F_echelon_rows : FnP K "echelon_rows" s_echelon_rows f_echelon_rows fd_echelon_rows
  g_echelon_rows : mg "echelon_rows" = some (.ref f_echelon_rows)
  b_echelon_rows : Binds K fd_echelon_rows ["rows", "width"] []
  f_lead_of : Addr
  fd_lead_of : FuncData
  F_lead_of : FnP K "lead_of" s_lead_of f_lead_of fd_lead_of
  g_lead_of : mg "lead_of" = some (.ref f_lead_of)
  b_lead_of : Binds K fd_lead_of ["row"] []
  f_rank_of : Addr
  fd_rank_of : FuncData
  F_rank_of : FnP K "rank_of" s_rank_of f_rank_of fd_rank_of
  g_rank_of : mg "rank_of" = some (.ref f_rank_of)
  b_rank_of : Binds K fd_rank_of ["rows", "width"] []
  f_kernel_rows : Addr
  fd_kernel_rows : FuncData
  F_kernel_rows : FnP K "kernel_rows" s_kernel_rows f_kernel_rows fd_kernel_rows
  g_kernel_rows : mg "kernel_rows" = some (.ref f_kernel_rows)
  b_kernel_rows : Binds K fd_kernel_rows ["rows", "width"] []
  f_product_rows : Addr
  fd_product_rows : FuncData
  F_product_rows : FnP K "product_rows" s_product_rows f_product_rows fd_product_rows
  g_product_rows : mg "product_rows" = some (.ref f_product_rows)
  b_product_rows : Binds K fd_product_rows ["one", "other"] []
  f_is_table_in : Addr
  fd_is_table_in : FuncData
  F_is_table_in : FnP K "is_table_in" s_is_table_in f_is_table_in fd_is_table_in
  g_is_table_in : mg "is_table_in" = some (.ref f_is_table_in)
  b_is_table_in : Binds K fd_is_table_in ["value"] []
  f_require_rows : Addr
  fd_require_rows : FuncData
  F_require_rows : FnP K "require_rows" s_require_rows f_require_rows fd_require_rows
  g_require_rows : mg "require_rows" = some (.ref f_require_rows)
  b_require_rows : Binds K fd_require_rows ["value"] []
  f_is_table : Addr
  fd_is_table : FuncData
  F_is_table : FnP K "is_table" s_is_table f_is_table fd_is_table
  g_is_table : mg "is_table" = some (.ref f_is_table)
  b_is_table : Binds K fd_is_table ["value"] []
  f_table_product : Addr
  fd_table_product : FuncData
  F_table_product : FnP K "table_product" s_table_product f_table_product fd_table_product
  g_table_product : mg "table_product" = some (.ref f_table_product)
  b_table_product : Binds K fd_table_product ["one", "other"] []
  f_rank : Addr
  fd_rank : FuncData
  F_rank : FnP K "rank" s_rank f_rank fd_rank
  g_rank : mg "rank" = some (.ref f_rank)
  b_rank : Binds K fd_rank ["table"] []
  f_kernel : Addr
  fd_kernel : FuncData
  F_kernel : FnP K "kernel" s_kernel f_kernel fd_kernel
  g_kernel : mg "kernel" = some (.ref f_kernel)
  b_kernel : Binds K fd_kernel ["table"] []
  f_law_dice : Addr
  fd_law_dice : FuncData
  F_law_dice : FnP K "_law_dice" s_law_dice f_law_dice fd_law_dice
  g_law_dice : mg "_law_dice" = some (.ref f_law_dice)
  b_law_dice : Binds K fd_law_dice ["_law_script", "_law_spot"] []
  f_law_roll : Addr
  fd_law_roll : FuncData
  F_law_roll : FnP K "_law_roll" s_law_roll f_law_roll fd_law_roll
  g_law_roll : mg "_law_roll" = some (.ref f_law_roll)
  b_law_roll : Binds K fd_law_roll ["_law_dice_here", "_law_total"] []
  f_law_pick : Addr
  fd_law_pick : FuncData
  F_law_pick : FnP K "_law_pick" s_law_pick f_law_pick fd_law_pick
  g_law_pick : mg "_law_pick" = some (.ref f_law_pick)
  b_law_pick : Binds K fd_law_pick ["_law_dice_here", "_law_items"] []
  f_law_near : Addr
  fd_law_near : FuncData
  F_law_near : FnP K "_law_near" s_law_near f_law_near fd_law_near
  g_law_near : mg "_law_near" = some (.ref f_law_near)
  b_law_near : Binds K fd_law_near ["_law_dice_here", "_law_most"] []
  f_law_gcd : Addr
  fd_law_gcd : FuncData
  F_law_gcd : FnP K "_law_gcd" s_law_gcd f_law_gcd fd_law_gcd
  g_law_gcd : mg "_law_gcd" = some (.ref f_law_gcd)
  b_law_gcd : Binds K fd_law_gcd ["_law_one", "_law_other"] []
  f_law_shared : Addr
  fd_law_shared : FuncData
  F_law_shared : FnP K "_law_shared" s_law_shared f_law_shared fd_law_shared
  g_law_shared : mg "_law_shared" = some (.ref f_law_shared)
  b_law_shared : Binds K fd_law_shared ["_law_numbers"] []
  f_law_plain : Addr
  fd_law_plain : FuncData
  F_law_plain : FnP K "_law_plain" s_law_plain f_law_plain fd_law_plain
  g_law_plain : mg "_law_plain" = some (.ref f_law_plain)
  b_law_plain : Binds K fd_law_plain ["_law_form"] []
  f_law_cleared : Addr
  fd_law_cleared : FuncData
  F_law_cleared : FnP K "_law_cleared" s_law_cleared f_law_cleared fd_law_cleared
  g_law_cleared : mg "_law_cleared" = some (.ref f_law_cleared)
  b_law_cleared : Binds K fd_law_cleared ["_law_rows", "_law_width"] []
  f_law_less : Addr
  fd_law_less : FuncData
  F_law_less : FnP K "_law_less" s_law_less f_law_less fd_law_less
  g_law_less : mg "_law_less" = some (.ref f_law_less)
  b_law_less : Binds K fd_law_less ["_law_row", "_law_head", "_law_place"] []
  f_law_rank : Addr
  fd_law_rank : FuncData
  F_law_rank : FnP K "_law_rank" s_law_rank f_law_rank fd_law_rank
  g_law_rank : mg "_law_rank" = some (.ref f_law_rank)
  b_law_rank : Binds K fd_law_rank ["_law_rows", "_law_width"] []
  f_law_leads : Addr
  fd_law_leads : FuncData
  F_law_leads : FnP K "_law_leads" s_law_leads f_law_leads fd_law_leads
  g_law_leads : mg "_law_leads" = some (.ref f_law_leads)
  b_law_leads : Binds K fd_law_leads ["_law_rows"] []
  f_law_kernel : Addr
  fd_law_kernel : FuncData
  F_law_kernel : FnP K "_law_kernel" s_law_kernel f_law_kernel fd_law_kernel
  g_law_kernel : mg "_law_kernel" = some (.ref f_law_kernel)
  b_law_kernel : Binds K fd_law_kernel ["_law_rows", "_law_width"] []
  f_law_some_table : Addr
  fd_law_some_table : FuncData
  F_law_some_table : FnP K "_law_some_table" s_law_some_table f_law_some_table fd_law_some_table
  g_law_some_table : mg "_law_some_table" = some (.ref f_law_some_table)
  b_law_some_table : Binds K fd_law_some_table ["_law_dice_here", "_law_rows", "_law_width", "_law_most"] []
  f_law_matrix : Addr
  fd_law_matrix : FuncData
  F_law_matrix : FnP K "_law_matrix" s_law_matrix f_law_matrix fd_law_matrix
  g_law_matrix : mg "_law_matrix" = some (.ref f_law_matrix)
  b_law_matrix : Binds K fd_law_matrix ["_law_one", "_law_other"] []
  f_law_turned : Addr
  fd_law_turned : FuncData
  F_law_turned : FnP K "_law_turned" s_law_turned f_law_turned fd_law_turned
  g_law_turned : mg "_law_turned" = some (.ref f_law_turned)
  b_law_turned : Binds K fd_law_turned ["_law_table"] []
  f_law_table_right : Addr
  fd_law_table_right : FuncData
  F_law_table_right : FnP K "_law_table_right" s_law_table_right f_law_table_right fd_law_table_right
  g_law_table_right : mg "_law_table_right" = some (.ref f_law_table_right)
  b_law_table_right : Binds K fd_law_table_right ["_law_table"] []
  f_law_right : Addr
  fd_law_right : FuncData
  F_law_right : FnP K "_law_right" s_law_right f_law_right fd_law_right
  g_law_right : mg "_law_right" = some (.ref f_law_right)
  b_law_right : Binds K fd_law_right ["_law_dice_here"] []
  f_law : Addr
  fd_law : FuncData
  F_law : FnP K "law" s_law f_law fd_law
  g_law : mg "law" = some (.ref f_law)
  b_law : Binds K fd_law ["_law_script"] []
  z_abs : mg "abs" = none
  z_all : mg "all" = none
  z_any : mg "any" = none
  z_bool : mg "bool" = none
  z_enumerate : mg "enumerate" = none
  z_int : mg "int" = none
  z_isinstance : mg "isinstance" = none
  z_len : mg "len" = none
  z_list : mg "list" = none
  z_max : mg "max" = none
  z_min : mg "min" = none
  z_next : mg "next" = none
  z_range : mg "range" = none
  z_sum : mg "sum" = none
  z_tuple : mg "tuple" = none
  z_zip : mg "zip" = none
  m_gcd : mg "gcd" = some (.builtin "math.gcd")
  c_GREATEST : ∃ t, mg "GREATEST" = some (.int 1000000000000000000000000000000000000000000000000000000000000 t)
  c_MAX_SIDE : ∃ t, mg "MAX_SIDE" = some (.int 24 t)
  c_first_of : Addr
  P_first_of : Addr
  code_first_of : fd_first_of.code = .ref c_first_of
  tab_first_of : (c_first_of, P_first_of) = HookT.cTA K (HookG.At.glo "first_of")
/-! ### for the head -/
def d_is_whole : HookG.GD := ⟨.glo "is_whole", "is_whole", "is_whole", defArgs s_is_whole, defBody s_is_whole, defScope s_is_whole⟩
def d_is_short : HookG.GD := ⟨.glo "is_short", "is_short", "is_short", defArgs s_is_short, defBody s_is_short, defScope s_is_short⟩
def d_shared_of : HookG.GD := ⟨.glo "shared_of", "shared_of", "shared_of", defArgs s_shared_of, defBody s_shared_of, defScope s_shared_of⟩
def d_first_of : HookG.GD := ⟨.glo "first_of", "first_of", "first_of", defArgs s_first_of, defBody s_first_of, defScope s_first_of⟩
def d_primitive_of : HookG.GD := ⟨.glo "primitive_of", "primitive_of", "primitive_of", defArgs s_primitive_of, defBody s_primitive_of, defScope s_primitive_of⟩
def d_less_head : HookG.GD := ⟨.glo "less_head", "less_head", "less_head", defArgs s_less_head, defBody s_less_head, defScope s_less_head⟩
def d_echelon_rows : HookG.GD := ⟨.glo "echelon_rows", "echelon_rows", "echelon_rows", defArgs s_echelon_rows, defBody s_echelon_rows, defScope s_echelon_rows⟩
def d_lead_of : HookG.GD := ⟨.glo "lead_of", "lead_of", "lead_of", defArgs s_lead_of, defBody s_lead_of, defScope s_lead_of⟩
def d_rank_of : HookG.GD := ⟨.glo "rank_of", "rank_of", "rank_of", defArgs s_rank_of, defBody s_rank_of, defScope s_rank_of⟩
def d_kernel_rows : HookG.GD := ⟨.glo "kernel_rows", "kernel_rows", "kernel_rows", defArgs s_kernel_rows, defBody s_kernel_rows, defScope s_kernel_rows⟩
def d_product_rows : HookG.GD := ⟨.glo "product_rows", "product_rows", "product_rows", defArgs s_product_rows, defBody s_product_rows, defScope s_product_rows⟩
def d_is_table_in : HookG.GD := ⟨.glo "is_table_in", "is_table_in", "is_table_in", defArgs s_is_table_in, defBody s_is_table_in, defScope s_is_table_in⟩
def d_require_rows : HookG.GD := ⟨.glo "require_rows", "require_rows", "require_rows", defArgs s_require_rows, defBody s_require_rows, defScope s_require_rows⟩
def d_is_table : HookG.GD := ⟨.glo "is_table", "is_table", "is_table", defArgs s_is_table, defBody s_is_table, defScope s_is_table⟩
def d_table_product : HookG.GD := ⟨.glo "table_product", "table_product", "table_product", defArgs s_table_product, defBody s_table_product, defScope s_table_product⟩
def d_rank : HookG.GD := ⟨.glo "rank", "rank", "rank", defArgs s_rank, defBody s_rank, defScope s_rank⟩
def d_kernel : HookG.GD := ⟨.glo "kernel", "kernel", "kernel", defArgs s_kernel, defBody s_kernel, defScope s_kernel⟩
def d_law_dice : HookG.GD := ⟨.glo "_law_dice", "_law_dice", "_law_dice", defArgs s_law_dice, defBody s_law_dice, defScope s_law_dice⟩
def d_law_roll : HookG.GD := ⟨.glo "_law_roll", "_law_roll", "_law_roll", defArgs s_law_roll, defBody s_law_roll, defScope s_law_roll⟩
def d_law_pick : HookG.GD := ⟨.glo "_law_pick", "_law_pick", "_law_pick", defArgs s_law_pick, defBody s_law_pick, defScope s_law_pick⟩
def d_law_near : HookG.GD := ⟨.glo "_law_near", "_law_near", "_law_near", defArgs s_law_near, defBody s_law_near, defScope s_law_near⟩
def d_law_gcd : HookG.GD := ⟨.glo "_law_gcd", "_law_gcd", "_law_gcd", defArgs s_law_gcd, defBody s_law_gcd, defScope s_law_gcd⟩
def d_law_shared : HookG.GD := ⟨.glo "_law_shared", "_law_shared", "_law_shared", defArgs s_law_shared, defBody s_law_shared, defScope s_law_shared⟩
def d_law_plain : HookG.GD := ⟨.glo "_law_plain", "_law_plain", "_law_plain", defArgs s_law_plain, defBody s_law_plain, defScope s_law_plain⟩
def d_law_cleared : HookG.GD := ⟨.glo "_law_cleared", "_law_cleared", "_law_cleared", defArgs s_law_cleared, defBody s_law_cleared, defScope s_law_cleared⟩
def d_law_less : HookG.GD := ⟨.glo "_law_less", "_law_less", "_law_less", defArgs s_law_less, defBody s_law_less, defScope s_law_less⟩
def d_law_rank : HookG.GD := ⟨.glo "_law_rank", "_law_rank", "_law_rank", defArgs s_law_rank, defBody s_law_rank, defScope s_law_rank⟩
def d_law_leads : HookG.GD := ⟨.glo "_law_leads", "_law_leads", "_law_leads", defArgs s_law_leads, defBody s_law_leads, defScope s_law_leads⟩
def d_law_kernel : HookG.GD := ⟨.glo "_law_kernel", "_law_kernel", "_law_kernel", defArgs s_law_kernel, defBody s_law_kernel, defScope s_law_kernel⟩
def d_law_some_table : HookG.GD := ⟨.glo "_law_some_table", "_law_some_table", "_law_some_table", defArgs s_law_some_table, defBody s_law_some_table, defScope s_law_some_table⟩
def d_law_matrix : HookG.GD := ⟨.glo "_law_matrix", "_law_matrix", "_law_matrix", defArgs s_law_matrix, defBody s_law_matrix, defScope s_law_matrix⟩
def d_law_turned : HookG.GD := ⟨.glo "_law_turned", "_law_turned", "_law_turned", defArgs s_law_turned, defBody s_law_turned, defScope s_law_turned⟩
def d_law_table_right : HookG.GD := ⟨.glo "_law_table_right", "_law_table_right", "_law_table_right", defArgs s_law_table_right, defBody s_law_table_right, defScope s_law_table_right⟩
def d_law_right : HookG.GD := ⟨.glo "_law_right", "_law_right", "_law_right", defArgs s_law_right, defBody s_law_right, defScope s_law_right⟩
def d_law : HookG.GD := ⟨.glo "law", "law", "law", defArgs s_law, defBody s_law, defScope s_law⟩
def fnL : List HookG.GD := [d_is_whole, d_is_short, d_shared_of, d_first_of, d_primitive_of, d_less_head, d_echelon_rows, d_lead_of, d_rank_of, d_kernel_rows, d_product_rows, d_is_table_in, d_require_rows, d_is_table, d_table_product, d_rank, d_kernel, d_law_dice, d_law_roll, d_law_pick, d_law_near, d_law_gcd, d_law_shared, d_law_plain, d_law_cleared, d_law_less, d_law_rank, d_law_leads, d_law_kernel, d_law_some_table, d_law_matrix, d_law_turned, d_law_table_right, d_law_right, d_law]
def faL : List He.Fa := [.glo "is_whole", .glo "is_short", .glo "shared_of", .glo "first_of", .glo "primitive_of", .glo "less_head", .glo "echelon_rows", .glo "lead_of", .glo "rank_of", .glo "kernel_rows", .glo "product_rows", .glo "is_table_in", .glo "require_rows", .glo "is_table", .glo "table_product", .glo "rank", .glo "kernel", .glo "_law_dice", .glo "_law_roll", .glo "_law_pick", .glo "_law_near", .glo "_law_gcd", .glo "_law_shared", .glo "_law_plain", .glo "_law_cleared", .glo "_law_less", .glo "_law_rank", .glo "_law_leads", .glo "_law_kernel", .glo "_law_some_table", .glo "_law_matrix", .glo "_law_turned", .glo "_law_table_right", .glo "_law_right", .glo "law", .free "abs", .free "all", .free "any", .free "bool", .free "enumerate", .free "int", .free "isinstance", .free "len", .free "list", .free "max", .free "min", .free "next", .free "range", .free "sum", .free "tuple", .free "zip", .int "GREATEST" 1000000000000000000000000000000000000000000000000000000000000, .int "MAX_SIDE" 24]
def tfL : List HookG.At := [(HookG.At.glo "first_of")]
def exL (K : PySem.W.Frag) : Bool := He.eqO (PySem.W.nsIn K mainGlobals "gcd") (some (some (.builtin "math.gcd")))
theorem facts_of {K : PySem.W.Frag} {h : Heap} {mg : Str → Option Value} (X : K.In h) (G : h.Ns mainGlobals mg) (c : HookG.SaysG faL fnL exL K) : Nonempty (Facts K mg) := by
  have ex := c.more
  unfold exL at ex
  obtain ⟨fd_is_whole, F_is_whole⟩ := c.def_ 0 (d := d_is_whole) rfl
  obtain ⟨fd_is_short, F_is_short⟩ := c.def_ 1 (d := d_is_short) rfl
  obtain ⟨fd_shared_of, F_shared_of⟩ := c.def_ 2 (d := d_shared_of) rfl
  obtain ⟨fd_first_of, F_first_of⟩ := c.def_ 3 (d := d_first_of) rfl
  obtain ⟨fd_primitive_of, F_primitive_of⟩ := c.def_ 4 (d := d_primitive_of) rfl
  obtain ⟨fd_less_head, F_less_head⟩ := c.def_ 5 (d := d_less_head) rfl
  obtain ⟨fd_echelon_rows, F_echelon_rows⟩ := c.def_ 6 (d := d_echelon_rows) rfl
  obtain ⟨fd_lead_of, F_lead_of⟩ := c.def_ 7 (d := d_lead_of) rfl
  obtain ⟨fd_rank_of, F_rank_of⟩ := c.def_ 8 (d := d_rank_of) rfl
  obtain ⟨fd_kernel_rows, F_kernel_rows⟩ := c.def_ 9 (d := d_kernel_rows) rfl
  obtain ⟨fd_product_rows, F_product_rows⟩ := c.def_ 10 (d := d_product_rows) rfl
  obtain ⟨fd_is_table_in, F_is_table_in⟩ := c.def_ 11 (d := d_is_table_in) rfl
  obtain ⟨fd_require_rows, F_require_rows⟩ := c.def_ 12 (d := d_require_rows) rfl
  obtain ⟨fd_is_table, F_is_table⟩ := c.def_ 13 (d := d_is_table) rfl
  obtain ⟨fd_table_product, F_table_product⟩ := c.def_ 14 (d := d_table_product) rfl
  obtain ⟨fd_rank, F_rank⟩ := c.def_ 15 (d := d_rank) rfl
  obtain ⟨fd_kernel, F_kernel⟩ := c.def_ 16 (d := d_kernel) rfl
  obtain ⟨fd_law_dice, F_law_dice⟩ := c.def_ 17 (d := d_law_dice) rfl
  obtain ⟨fd_law_roll, F_law_roll⟩ := c.def_ 18 (d := d_law_roll) rfl
  obtain ⟨fd_law_pick, F_law_pick⟩ := c.def_ 19 (d := d_law_pick) rfl
  obtain ⟨fd_law_near, F_law_near⟩ := c.def_ 20 (d := d_law_near) rfl
  obtain ⟨fd_law_gcd, F_law_gcd⟩ := c.def_ 21 (d := d_law_gcd) rfl
  obtain ⟨fd_law_shared, F_law_shared⟩ := c.def_ 22 (d := d_law_shared) rfl
  obtain ⟨fd_law_plain, F_law_plain⟩ := c.def_ 23 (d := d_law_plain) rfl
  obtain ⟨fd_law_cleared, F_law_cleared⟩ := c.def_ 24 (d := d_law_cleared) rfl
  obtain ⟨fd_law_less, F_law_less⟩ := c.def_ 25 (d := d_law_less) rfl
  obtain ⟨fd_law_rank, F_law_rank⟩ := c.def_ 26 (d := d_law_rank) rfl
  obtain ⟨fd_law_leads, F_law_leads⟩ := c.def_ 27 (d := d_law_leads) rfl
  obtain ⟨fd_law_kernel, F_law_kernel⟩ := c.def_ 28 (d := d_law_kernel) rfl
  obtain ⟨fd_law_some_table, F_law_some_table⟩ := c.def_ 29 (d := d_law_some_table) rfl
  obtain ⟨fd_law_matrix, F_law_matrix⟩ := c.def_ 30 (d := d_law_matrix) rfl
  obtain ⟨fd_law_turned, F_law_turned⟩ := c.def_ 31 (d := d_law_turned) rfl
  obtain ⟨fd_law_table_right, F_law_table_right⟩ := c.def_ 32 (d := d_law_table_right) rfl
  obtain ⟨fd_law_right, F_law_right⟩ := c.def_ 33 (d := d_law_right) rfl
  obtain ⟨fd_law, F_law⟩ := c.def_ 34 (d := d_law) rfl
  exact ⟨{ f_is_whole := _, fd_is_whole := _, F_is_whole := F_is_whole, b_is_whole := (F_is_whole.bindsN fun _ _ _ _ _ _ us hl => match us, hl with | [_], _ => rfl), g_is_whole := He.glo_ok X G (c.fact 0 (f := .glo "is_whole") rfl), f_is_short := _, fd_is_short := _, F_is_short := F_is_short, b_is_short := (F_is_short.bindsN fun _ _ _ _ _ _ us hl => match us, hl with | [_], _ => rfl), g_is_short := He.glo_ok X G (c.fact 1 (f := .glo "is_short") rfl), f_shared_of := _, fd_shared_of := _, F_shared_of := F_shared_of, b_shared_of := (F_shared_of.bindsN fun _ _ _ _ _ _ us hl => match us, hl with | [_], _ => rfl), g_shared_of := He.glo_ok X G (c.fact 2 (f := .glo "shared_of") rfl), f_first_of := _, fd_first_of := _, F_first_of := F_first_of, b_first_of := (F_first_of.bindsN fun _ _ _ _ _ _ us hl => match us, hl with | [_], _ => rfl), g_first_of := He.glo_ok X G (c.fact 3 (f := .glo "first_of") rfl), f_primitive_of := _, fd_primitive_of := _, F_primitive_of := F_primitive_of, b_primitive_of := (F_primitive_of.bindsN fun _ _ _ _ _ _ us hl => match us, hl with | [_], _ => rfl), g_primitive_of := He.glo_ok X G (c.fact 4 (f := .glo "primitive_of") rfl), f_less_head := _, fd_less_head := _, F_less_head := F_less_head, b_less_head := (F_less_head.bindsN fun _ _ _ _ _ _ us hl => match us, hl with | [_, _, _], _ => rfl), g_less_head := He.glo_ok X G (c.fact 5 (f := .glo "less_head") rfl), f_echelon_rows := _, fd_echelon_rows := _, F_echelon_rows := F_echelon_rows, b_echelon_rows := (F_echelon_rows.bindsN fun _ _ _ _ _ _ us hl => match us, hl with | [_, _], _ => rfl), g_echelon_rows := He.glo_ok X G (c.fact 6 (f := .glo "echelon_rows") rfl), f_lead_of := _, fd_lead_of := _, F_lead_of := F_lead_of, b_lead_of := (F_lead_of.bindsN fun _ _ _ _ _ _ us hl => match us, hl with | [_], _ => rfl), g_lead_of := He.glo_ok X G (c.fact 7 (f := .glo "lead_of") rfl), f_rank_of := _, fd_rank_of := _, F_rank_of := F_rank_of, b_rank_of := (F_rank_of.bindsN fun _ _ _ _ _ _ us hl => match us, hl with | [_, _], _ => rfl), g_rank_of := He.glo_ok X G (c.fact 8 (f := .glo "rank_of") rfl), f_kernel_rows := _, fd_kernel_rows := _, F_kernel_rows := F_kernel_rows, b_kernel_rows := (F_kernel_rows.bindsN fun _ _ _ _ _ _ us hl => match us, hl with | [_, _], _ => rfl), g_kernel_rows := He.glo_ok X G (c.fact 9 (f := .glo "kernel_rows") rfl), f_product_rows := _, fd_product_rows := _, F_product_rows := F_product_rows, b_product_rows := (F_product_rows.bindsN fun _ _ _ _ _ _ us hl => match us, hl with | [_, _], _ => rfl), g_product_rows := He.glo_ok X G (c.fact 10 (f := .glo "product_rows") rfl), f_is_table_in := _, fd_is_table_in := _, F_is_table_in := F_is_table_in, b_is_table_in := (F_is_table_in.bindsN fun _ _ _ _ _ _ us hl => match us, hl with | [_], _ => rfl), g_is_table_in := He.glo_ok X G (c.fact 11 (f := .glo "is_table_in") rfl), f_require_rows := _, fd_require_rows := _, F_require_rows := F_require_rows, b_require_rows := (F_require_rows.bindsN fun _ _ _ _ _ _ us hl => match us, hl with | [_], _ => rfl), g_require_rows := He.glo_ok X G (c.fact 12 (f := .glo "require_rows") rfl), f_is_table := _, fd_is_table := _, F_is_table := F_is_table, b_is_table := (F_is_table.bindsN fun _ _ _ _ _ _ us hl => match us, hl with | [_], _ => rfl), g_is_table := He.glo_ok X G (c.fact 13 (f := .glo "is_table") rfl), f_table_product := _, fd_table_product := _, F_table_product := F_table_product, b_table_product := (F_table_product.bindsN fun _ _ _ _ _ _ us hl => match us, hl with | [_, _], _ => rfl), g_table_product := He.glo_ok X G (c.fact 14 (f := .glo "table_product") rfl), f_rank := _, fd_rank := _, F_rank := F_rank, b_rank := (F_rank.bindsN fun _ _ _ _ _ _ us hl => match us, hl with | [_], _ => rfl), g_rank := He.glo_ok X G (c.fact 15 (f := .glo "rank") rfl), f_kernel := _, fd_kernel := _, F_kernel := F_kernel, b_kernel := (F_kernel.bindsN fun _ _ _ _ _ _ us hl => match us, hl with | [_], _ => rfl), g_kernel := He.glo_ok X G (c.fact 16 (f := .glo "kernel") rfl), f_law_dice := _, fd_law_dice := _, F_law_dice := F_law_dice, b_law_dice := (F_law_dice.bindsN fun _ _ _ _ _ _ us hl => match us, hl with | [_, _], _ => rfl), g_law_dice := He.glo_ok X G (c.fact 17 (f := .glo "_law_dice") rfl), f_law_roll := _, fd_law_roll := _, F_law_roll := F_law_roll, b_law_roll := (F_law_roll.bindsN fun _ _ _ _ _ _ us hl => match us, hl with | [_, _], _ => rfl), g_law_roll := He.glo_ok X G (c.fact 18 (f := .glo "_law_roll") rfl), f_law_pick := _, fd_law_pick := _, F_law_pick := F_law_pick, b_law_pick := (F_law_pick.bindsN fun _ _ _ _ _ _ us hl => match us, hl with | [_, _], _ => rfl), g_law_pick := He.glo_ok X G (c.fact 19 (f := .glo "_law_pick") rfl), f_law_near := _, fd_law_near := _, F_law_near := F_law_near, b_law_near := (F_law_near.bindsN fun _ _ _ _ _ _ us hl => match us, hl with | [_, _], _ => rfl), g_law_near := He.glo_ok X G (c.fact 20 (f := .glo "_law_near") rfl), f_law_gcd := _, fd_law_gcd := _, F_law_gcd := F_law_gcd, b_law_gcd := (F_law_gcd.bindsN fun _ _ _ _ _ _ us hl => match us, hl with | [_, _], _ => rfl), g_law_gcd := He.glo_ok X G (c.fact 21 (f := .glo "_law_gcd") rfl), f_law_shared := _, fd_law_shared := _, F_law_shared := F_law_shared, b_law_shared := (F_law_shared.bindsN fun _ _ _ _ _ _ us hl => match us, hl with | [_], _ => rfl), g_law_shared := He.glo_ok X G (c.fact 22 (f := .glo "_law_shared") rfl), f_law_plain := _, fd_law_plain := _, F_law_plain := F_law_plain, b_law_plain := (F_law_plain.bindsN fun _ _ _ _ _ _ us hl => match us, hl with | [_], _ => rfl), g_law_plain := He.glo_ok X G (c.fact 23 (f := .glo "_law_plain") rfl), f_law_cleared := _, fd_law_cleared := _, F_law_cleared := F_law_cleared, b_law_cleared := (F_law_cleared.bindsN fun _ _ _ _ _ _ us hl => match us, hl with | [_, _], _ => rfl), g_law_cleared := He.glo_ok X G (c.fact 24 (f := .glo "_law_cleared") rfl), f_law_less := _, fd_law_less := _, F_law_less := F_law_less, b_law_less := (F_law_less.bindsN fun _ _ _ _ _ _ us hl => match us, hl with | [_, _, _], _ => rfl), g_law_less := He.glo_ok X G (c.fact 25 (f := .glo "_law_less") rfl), f_law_rank := _, fd_law_rank := _, F_law_rank := F_law_rank, b_law_rank := (F_law_rank.bindsN fun _ _ _ _ _ _ us hl => match us, hl with | [_, _], _ => rfl), g_law_rank := He.glo_ok X G (c.fact 26 (f := .glo "_law_rank") rfl), f_law_leads := _, fd_law_leads := _, F_law_leads := F_law_leads, b_law_leads := (F_law_leads.bindsN fun _ _ _ _ _ _ us hl => match us, hl with | [_], _ => rfl), g_law_leads := He.glo_ok X G (c.fact 27 (f := .glo "_law_leads") rfl), f_law_kernel := _, fd_law_kernel := _, F_law_kernel := F_law_kernel, b_law_kernel := (F_law_kernel.bindsN fun _ _ _ _ _ _ us hl => match us, hl with | [_, _], _ => rfl), g_law_kernel := He.glo_ok X G (c.fact 28 (f := .glo "_law_kernel") rfl), f_law_some_table := _, fd_law_some_table := _, F_law_some_table := F_law_some_table, b_law_some_table := (F_law_some_table.bindsN fun _ _ _ _ _ _ us hl => match us, hl with | [_, _, _, _], _ => rfl), g_law_some_table := He.glo_ok X G (c.fact 29 (f := .glo "_law_some_table") rfl), f_law_matrix := _, fd_law_matrix := _, F_law_matrix := F_law_matrix, b_law_matrix := (F_law_matrix.bindsN fun _ _ _ _ _ _ us hl => match us, hl with | [_, _], _ => rfl), g_law_matrix := He.glo_ok X G (c.fact 30 (f := .glo "_law_matrix") rfl), f_law_turned := _, fd_law_turned := _, F_law_turned := F_law_turned, b_law_turned := (F_law_turned.bindsN fun _ _ _ _ _ _ us hl => match us, hl with | [_], _ => rfl), g_law_turned := He.glo_ok X G (c.fact 31 (f := .glo "_law_turned") rfl), f_law_table_right := _, fd_law_table_right := _, F_law_table_right := F_law_table_right, b_law_table_right := (F_law_table_right.bindsN fun _ _ _ _ _ _ us hl => match us, hl with | [_], _ => rfl), g_law_table_right := He.glo_ok X G (c.fact 32 (f := .glo "_law_table_right") rfl), f_law_right := _, fd_law_right := _, F_law_right := F_law_right, b_law_right := (F_law_right.bindsN fun _ _ _ _ _ _ us hl => match us, hl with | [_], _ => rfl), g_law_right := He.glo_ok X G (c.fact 33 (f := .glo "_law_right") rfl), f_law := _, fd_law := _, F_law := F_law, b_law := (F_law.bindsN fun _ _ _ _ _ _ us hl => match us, hl with | [_], _ => rfl), g_law := He.glo_ok X G (c.fact 34 (f := .glo "law") rfl), z_abs := He.free_ok X G (c.fact 35 (f := .free "abs") rfl), z_all := He.free_ok X G (c.fact 36 (f := .free "all") rfl), z_any := He.free_ok X G (c.fact 37 (f := .free "any") rfl), z_bool := He.free_ok X G (c.fact 38 (f := .free "bool") rfl), z_enumerate := He.free_ok X G (c.fact 39 (f := .free "enumerate") rfl), z_int := He.free_ok X G (c.fact 40 (f := .free "int") rfl), z_isinstance := He.free_ok X G (c.fact 41 (f := .free "isinstance") rfl), z_len := He.free_ok X G (c.fact 42 (f := .free "len") rfl), z_list := He.free_ok X G (c.fact 43 (f := .free "list") rfl), z_max := He.free_ok X G (c.fact 44 (f := .free "max") rfl), z_min := He.free_ok X G (c.fact 45 (f := .free "min") rfl), z_next := He.free_ok X G (c.fact 46 (f := .free "next") rfl), z_range := He.free_ok X G (c.fact 47 (f := .free "range") rfl), z_sum := He.free_ok X G (c.fact 48 (f := .free "sum") rfl), z_tuple := He.free_ok X G (c.fact 49 (f := .free "tuple") rfl), z_zip := He.free_ok X G (c.fact 50 (f := .free "zip") rfl), c_GREATEST := He.int_ok X G (c.fact 51 (f := .int "GREATEST" 1000000000000000000000000000000000000000000000000000000000000) rfl), c_MAX_SIDE := He.int_ok X G (c.fact 52 (f := .int "MAX_SIDE" 24) rfl), c_first_of := HookT.codA K ((HookG.At.glo "first_of").adr K), P_first_of := He.tabOf K (HookT.codA K ((HookG.At.glo "first_of").adr K)), code_first_of := HookT.code_of F_first_of, tab_first_of := rfl, m_gcd := PySem.W.mg_of X G (He.eqO_ok ex) }⟩

end K01

set_option Elab.async false
set_option linter.all false
set_option maxRecDepth 100000
set_option maxHeartbeats 0
namespace K01
open PySem PySem.Spec PyProof.Rows L2
abbrev R : PySem.W.OpenRow := PySem.W.OpenLaw.row PySem.Challenge.rw_sourceforms_k01_whole_echelons_and_kerne
abbrev hk : PySem.W.Hook := HookT.hookT 5 faL fnL tfL exL
def ob (s : PySem.W.SharedT) : HookT.AlGT := HookT.obsGT 5 faL fnL tfL exL (HandSHeadRun.getT s)
theorem ob_eq (s : PySem.W.SharedT) : ob s = hk.obs s.abs := HookT.obsGT_eq (HandSHeadRun.getT_eq s)
def loose0 : List Str := ["LetterError", "InvalidTable", "InvalidOperation", "GREATEST", "is_whole", "is_short", "shared_of", "first_of", "primitive_of", "MAX_SIDE", "less_head", "echelon_rows", "lead_of", "rank_of", "kernel_rows", "product_rows", "is_table_in", "require_rows", "is_table", "table_product", "rank", "kernel", "_law_dice", "_law_roll", "_law_pick", "_law_near", "_law_gcd", "_law_shared", "_law_plain", "_law_cleared"]
def loose1 : List Str := ["_law_less", "_law_rank", "_law_leads", "_law_kernel", "_law_some_table", "_law_matrix", "_law_turned", "_law_table_right", "_law_right"]
def loose : List Str := loose0 ++ loose1
theorem run (w : World) : HandSHeadRun.RunEqI R (PySem.W.view R.prog [0, 44]) hk ob 9000 loose w := by
  show (_ : Option _) = _
  kernel_rfl
end K01

set_option Elab.async false
set_option linter.all false
set_option maxRecDepth 100000
set_option maxHeartbeats 4000000
namespace K01
open PySem PySem.Spec PyProof.Rows L2 StX RZ MyR SlX OwnR OwnF EnumT
/-! products of forms: the plain law -/
/-- the entry at a place, 0 behind the end -/
def co (l : List Int) (k : Nat) : Int := l.getD k 0
/-- the first n values -/
def tb (n : Nat) (f : Nat → Int) : List Int := (List.range n).map f
theorem tb_len (n : Nat) (f : Nat → Int) : (tb n f).length = n := by
  unfold tb
  rw [List.length_map, List.length_range]
theorem co_tb {n : Nat} {f : Nat → Int} (k : Nat) : co (tb n f) k = if k < n then f k else 0 := by
  unfold co tb
  rw [List.getD_eq_getElem?_getD, List.getElem?_map]
  by_cases h : k < n
  · rw [List.getElem?_range h, if_pos h]
    rfl
  · rw [List.getElem?_eq_none (by rw [List.length_range]; omega), if_neg h]
    rfl
theorem co_far {l : List Int} {i : Nat} (h : l.length ≤ i) : co l i = 0 := by
  unfold co
  rw [List.getD_eq_getElem?_getD, List.getElem?_eq_none h]
  rfl
theorem co_get {l : List Int} {i : Nat} (h : i < l.length) : co l i = l[i] := by
  unfold co
  rw [List.getD_eq_getElem?_getD, List.getElem?_eq_getElem h]
  rfl
theorem co_inj {l m : List Int} (hl : l.length = m.length) (h : ∀ i, co l i = co m i) : l = m := by
  refine List.ext_getElem hl fun i h1 h2 => ?_
  rw [← co_get h1, ← co_get h2, h]
theorem tb_co (l : List Int) : tb l.length (co l) = l := co_inj (tb_len _ _) fun i => by
  rw [co_tb]
  split
  · rfl
  · exact (co_far (by omega)).symm
/-! the contents of forms -/
/-- an int of at most sixty digits -/
def Sho (i : Int) : Prop := i.natAbs < 10 ^ 60
@[elab_as_elim] theorem gen_upd {G : Hp → Prop} (H : Hp) (p : Addr) (o : HO) (n : H p = none) (h : ∀ H', Same H H' → H' p = some o → G H') : G (upd H p o) := h _ (same_upd0 n) upd_same
section
variable {P : Program} {w : World} {K : PySem.W.Frag} {mg : Str → Option Value} {base : Heap}
def spWhole : Sp := fun vs H Q _ => ∃ i : Int, vs = [.int i] ∧ Q (.bl true) H
theorem ok_is_whole (T : Facts K mg) : FnOk P w K mg base CX0 1 T.f_is_whole T.fd_is_whole ["value"] spWhole := by
  refine T.F_is_whole.ok sc_is_whole (fun vs H Q E h => ?_) (fun cdv A outer s H vs Q E hr h => ?_)
  · obtain ⟨i, rfl, _⟩ := h
    rfl
  · obtain ⟨i, rfl, q⟩ := h
    refine ⟨_, (PSs.nox (pss_one (ps_ret (pe_and (pe_callB call_isi (by rfl) T.z_isinstance (by decide +kernel) (pa_cons (pv 0) (pa_cons (pe_bltn (v := .ty "int") (by rfl) T.z_int (by decide +kernel) rfl) pa_nil))) (pe_one (pe_not (pe_callB call_isi (by rfl) T.z_isinstance (by decide +kernel) (pa_cons (pv 0) (pa_cons (pe_bltn (v := .ty "bool") (by rfl) T.z_bool (by decide +kernel) rfl) pa_nil))))))))), ?_⟩
    refine ⟨_, rfl, .int i, .ty "int", .type "int", .type "int", true, rfl, .ty "int", .base (.int i), kit_ty (show kitB "int" "int" = some true by decide +kernel), true, rfl, iteT ?_⟩
    exact ⟨_, rfl, .int i, .ty "bool", .type "int", .type "bool", false, rfl, .ty "bool", .base (.int i), kit_ty (show kitB "int" "bool" = some false by decide +kernel), false, rfl, q⟩
def spShort : Sp := fun vs H Q _ => ∃ i : Int, vs = [.int i] ∧ Sho i ∧ Q (.bl true) H
theorem ok_is_short (T : Facts K mg) : FnOk P w K mg base CX0 2 T.f_is_short T.fd_is_short ["value"] spShort := by
  have G_is_whole : FnOk P w K mg base CX0 1 T.f_is_whole T.fd_is_whole ["value"] spWhole := ok_is_whole T
  refine T.F_is_short.ok sc_is_short (fun vs H Q E h => ?_) (fun cdv A outer s H vs Q E hr h => ?_)
  · obtain ⟨i, rfl, _⟩ := h
    rfl
  · obtain ⟨i, rfl, hi, q⟩ := h
    have e60 : (10 : Nat) ^ 60 = 1000000000000000000000000000000000000000000000000000000000000 := by decide
    unfold Sho at hi
    rw [e60] at hi
    refine ⟨_, (PSs.nox (pss_one (ps_ret (pe_and (pe_call G_is_whole hr (by rfl) T.g_is_whole T.F_is_whole.kp T.b_is_whole .nil pass0 (pa_cons (pv 0) pa_nil)) (pe_one (pe_chain op_lt op_lt (pe_un un_neg (pe_glob (v := .int 1000000000000000000000000000000000000000000000000000000000000) (by rfl) T.c_GREATEST.choose_spec ⟨_, rfl⟩)) (pv 0) (pe_glob (v := .int 1000000000000000000000000000000000000000000000000000000000000) (by rfl) T.c_GREATEST.choose_spec ⟨_, rfl⟩))))))), ?_⟩
    refine ⟨_, rfl, i, rfl, true, rfl, iteT ⟨_, rfl, _, rfl, _, i, rfl, rfl, true, ?_, iteT ⟨i, _, rfl, rfl, ?_⟩⟩⟩
    · show V.bl (decide (-1000000000000000000000000000000000000000000000000000000000000 < i)) = V.bl true
      rw [decide_eq_true (by omega)]
    · show Q (V.bl (decide (i < 1000000000000000000000000000000000000000000000000000000000000))) H
      rw [decide_eq_true (by omega)]
      exact q
/-- a tuple of ints -/
abbrev tp (ns : List Int) : HO := .tup (ns.map V.int)
end
def tab (L : Nat) (f : Nat → Int) : List V := (List.range L).map fun k => V.int (f k)
theorem tab_tb (L : Nat) (f : Nat → Int) : tab L f = (tb L f).map V.int := by
  unfold tab tb
  rw [List.map_map]
  rfl
theorem tab_len (L : Nat) (f : Nat → Int) : (tab L f).length = L := by
  unfold tab
  rw [List.length_map, List.length_range]
theorem get_int {xs : List Int} {i : Nat} (h : i < xs.length) : (xs.map V.int)[i]? = some (.int (co xs i)) := by
  rw [List.getElem?_map, List.getElem?_eq_getElem h, co_get h]
  rfl
section
variable {P : Program} {w : World} {K : PySem.W.Frag} {mg : Str → Option Value} {base : Heap}
end
theorem tb_map (f : Int → Int) (l : List Int) : (tb l.length fun k => f (co l k)) = l.map f := by
  conv => rhs; rw [← tb_co l]
  unfold tb
  rw [List.map_map]
  rfl
section
variable {P : Program} {w : World} {K : PySem.W.Frag} {mg : Str → Option Value} {base : Heap}
end
/-! ### == of tuples of ints -/
theorem dpAll_ints {K : PySem.W.Frag} {H : Hp} : ∀ ns : List Int, DpAll K H (ns.map V.int) (ns.map PyData.int)
  | [] => .nil
  | n :: r => .cons (.int n) (dpAll_ints r)
theorem lay_ints : ∀ ns : List Int, PyData.canLayAll0 (ns.map PyData.int) = true
  | [] => rfl
  | n :: r => by
    show (PyData.canLay0 (.int n) && PyData.canLayAll0 (r.map PyData.int)) = true
    rw [lay_ints r]
    rfl
theorem depth_ints : ∀ ns : List Int, PyData.depthAll (ns.map PyData.int) = 0
  | [] => rfl
  | n :: r => by
    show max (PyData.depth (.int n)) (PyData.depthAll (r.map PyData.int)) = 0
    rw [depth_ints r]
    rfl
/-! ### the properties, the operators -/
section
variable {P : Program} {w : World} {K : PySem.W.Frag} {mg : Str → Option Value} {base : Heap}
end
theorem eqvAll_ints : ∀ xs ys : List Int, PyData.eqvAll (xs.map PyData.int) (ys.map PyData.int) = decide (xs = ys)
  | [], [] => rfl
  | [], _ :: _ => rfl
  | _ :: _, [] => rfl
  | x :: xs, y :: ys => by
    show (PyData.eqv (.int x) (.int y) && PyData.eqvAll (xs.map PyData.int) (ys.map PyData.int)) = _
    rw [eqvAll_ints xs ys]
    show ((x == y) && decide (xs = ys)) = decide (x :: xs = y :: ys)
    by_cases h : x = y
    · by_cases k : xs = ys
      · subst h k
        simp
      · rw [decide_eq_false k, decide_eq_false fun z => k (List.cons.inj z).2, Bool.and_false]
    · rw [decide_eq_false fun z => h (List.cons.inj z).1, beq_eq_false_iff_ne.mpr h, Bool.false_and]
section
variable {P : Program} {w : World} {K : PySem.W.Frag} {mg : Str → Option Value} {base : Heap}
end
abbrev dice (x y z : Int) : HO := .lst [.int x, .int y, .int z]
/-- all but the dice is as it was -/
def Sx (a : Addr) (H H' : Hp) : Prop := ∀ b o, b ≠ a → H b = some o → H' b = some o
def Dc (H : Hp) (a : Addr) : Prop := ∃ x y z, H a = some (dice x y z)
theorem Sx.of {a : Addr} {H H' : Hp} (s : Same H H') : Sx a H H' := fun b o _ h => s b o h
theorem Sx.upd {a : Addr} {H : Hp} {o : HO} : Sx a H (upd H a o) := fun b u n h => by
  rw [upd_ne n]
  exact h
theorem Dc.same {a : Addr} {H H' : Hp} (d : Dc H a) (s : Same H H') : Dc H' a := by
  obtain ⟨x, y, z, e⟩ := d
  exact ⟨x, y, z, s _ _ e⟩
theorem Dc.ne {a p : Addr} {H : Hp} (d : Dc H a) (n : H p = none) : p ≠ a := fun e => by
  obtain ⟨x, y, z, h⟩ := d
  rw [e, h] at n
  cases n
section
variable {P : Program} {w : World} {K : PySem.W.Frag} {mg : Str → Option Value} {base : Heap}
theorem cp16 : CPow 10 16 := ⟨by decide, by decide, by decide⟩
theorem cp60 : CPow 10 60 := ⟨by decide, by decide, by decide⟩
theorem cw60 : CMulW (10 ^ Int.toNat 60) (10 ^ Int.toNat 60) := by
  unfold CMulW
  decide +kernel
theorem pos60 : (0 : Int) < 10 ^ Int.toNat 60 * 10 ^ Int.toNat 60 := by decide +kernel
theorem pos_m : (0 : Int) < 1152921504606846697 := by decide
theorem sz3 : 3 ≤ sizeLine := by decide
def spDice (K : PySem.W.Frag) : Sp := fun vs H Q _ => ∃ (a : Addr) (ns : List Int) (k : Nat), vs = [.ref a, .int k] ∧ SqL K H a (ns.map V.int) ∧ ∀ p x y z, H p = none → Q (.ref p) (upd H p (dice x y z))
theorem ok_law_dice (T : Facts K mg) : FnOk P w K mg base CX0 1 T.f_law_dice T.fd_law_dice ["_law_script", "_law_spot"] (spDice K) := by
  refine T.F_law_dice.ok sc_law_dice (fun vs H Q E h => ?_) (fun cdv A outer s H vs Q E hr h => ?_)
  · obtain ⟨a, ns, k, rfl, _⟩ := h
    rfl
  · obtain ⟨a, ns, k, rfl, hS, q⟩ := h
    refine ⟨_, (PSs.nox (pss_cons (ps_set (i := 2) sc_law_dice.nd rfl (.inl rfl) (pe_ifExp (pt_cmpR op_lt (pv 1) (pe_callB call_len_seq (by rfl) T.z_len (by decide +kernel) (pa_cons (pv 0) pa_nil)) (nomark _)) (pe_callTy call_int1 (by rfl) T.z_int (by decide +kernel) (pa_cons (pe_ix ix_list (pv 0) (pv 1) (fun _ _ => rfl)) pa_nil)) (pe_op op_add (pe_op op_mul pe_int (pv 1)) pe_int)))
    (pss_cons (ps_set (i := 3) sc_law_dice.nd rfl (.inl rfl) (pe_op op_mod (pe_callB (call_max2 (by rfl)) (by rfl) T.z_max (by decide +kernel) (pa_cons pe_int (pa_cons (pe_op op_sub (pe_callB call_abs (by rfl) T.z_abs (by decide +kernel) (pa_cons (pv 2) pa_nil)) (pe_op op_pow pe_int pe_int)) pa_nil))) (pe_op op_mulW (pe_op op_pow pe_int pe_int) (pe_op op_pow pe_int pe_int))))
    (pss_one (ps_ret (pe_lst (pa_cons (pv 3) (pa_cons (pe_op op_add (pe_op op_add (pe_op op_add (pe_op op_mul (pe_op op_mod (pe_callB call_abs (by rfl) T.z_abs (by decide +kernel) (pa_cons (pv 2) pa_nil)) pe_int) pe_int) (pe_op op_mul pe_int (pv 1))) (pe_op op_mul pe_int (pe_callTy call_int1 (by rfl) T.z_int (by decide +kernel) (pa_cons (pe_cmpR op_lt (pv 2) pe_int (nomark _)) pa_nil)))) pe_int) (pa_cons pe_int pa_nil))))))))), ?_⟩
    refine ⟨.int k, rfl, .ref a, rfl, a, ns.map V.int, rfl, .inl hS, k, _, rfl, rfl, _, rfl, ?_⟩
    rw [List.length_map]
    by_cases h1 : (k : Int) < (ns.length : Int)
    · rw [decide_eq_true h1]
      have hj : k < ns.length := by omega
      refine iteT ⟨.ref a, rfl, .int k, rfl, a, ns.map V.int, k, .int ns[k], rfl, rfl, hS, atI_nat (by rw [List.getElem?_map, List.getElem?_eq_getElem hj]; rfl), .inl ⟨_, rfl, ?_⟩⟩
      refine ⟨.int ns[k], rfl, _, rfl, 10, 16, rfl, rfl, cp16, _, _, rfl, rfl, 0, _, rfl, 10, 60, rfl, rfl, cp60, 10, 60, rfl, rfl, cp60, _, _, rfl, rfl, cw60, _, _, rfl, rfl, pos60, ?_⟩
      refine ⟨_, rfl, .int ns[k], rfl, _, rfl, _, _, rfl, rfl, pos_m, _, _, rfl, rfl, .inr ⟨by decide, by decide⟩, .int k, rfl, _, _, rfl, rfl, .inl ⟨by decide, by decide⟩, _, _, rfl, rfl, .int ns[k], rfl, _, _, rfl, rfl, .inr ⟨_, rfl, _, _, rfl, rfl, .inl ⟨by decide, by decide⟩, _, _, rfl, rfl, _, _, rfl, rfl, ?_⟩⟩
      exact ⟨sz3, fun p hp => q p _ _ _ hp⟩
    · rw [decide_eq_false h1]
      refine iteF ⟨.int k, rfl, _, _, rfl, rfl, .inl ⟨by decide, by decide⟩, _, _, rfl, rfl, ?_⟩
      refine ⟨_, rfl, _, rfl, 10, 16, rfl, rfl, cp16, _, _, rfl, rfl, 0, _, rfl, 10, 60, rfl, rfl, cp60, 10, 60, rfl, rfl, cp60, _, _, rfl, rfl, cw60, _, _, rfl, rfl, pos60, ?_⟩
      refine ⟨_, rfl, _, rfl, _, rfl, _, _, rfl, rfl, pos_m, _, _, rfl, rfl, .inr ⟨by decide, by decide⟩, .int k, rfl, _, _, rfl, rfl, .inl ⟨by decide, by decide⟩, _, _, rfl, rfl, _, rfl, _, _, rfl, rfl, .inr ⟨_, rfl, _, _, rfl, rfl, .inl ⟨by decide, by decide⟩, _, _, rfl, rfl, _, _, rfl, rfl, ?_⟩⟩
      exact ⟨sz3, fun p hp => q p _ _ _ hp⟩
def spRoll : Sp := fun vs H Q _ => ∃ (a : Addr) (x y z n : Int), vs = [.ref a, .int n] ∧ H a = some (dice x y z) ∧ 0 < n ∧ n.natAbs.log2 < 9000 ∧ ∀ r x' z', 0 ≤ r → r < n → Q (.int r) (upd H a (dice x' y z'))
theorem ok_law_roll (T : Facts K mg) : FnOk P w K mg base CX0 1 T.f_law_roll T.fd_law_roll ["_law_dice_here", "_law_total"] spRoll := by
  refine T.F_law_roll.ok sc_law_roll (fun vs H Q E h => ?_) (fun cdv A outer s H vs Q E hr h => ?_)
  · obtain ⟨a, x, y, z, n, rfl, _⟩ := h
    rfl
  · obtain ⟨a, x, y, z, n, rfl, hd, h0, h1, q⟩ := h
    have hS : SqL K H a [.int x, .int y, .int z] := SqL.of hd
    refine ⟨_, (PSs.nox (pss_cons (ps_if (pt_cmpR op_gt (pe_ix ix_list (pv 0) pe_int (fun _ _ => rfl)) pe_int (nomark _))
      (pss_cons (ps_set (i := 2) sc_law_roll.nd rfl (.inl rfl) (pe_op op_mod (pe_callTy call_int1 (by rfl) T.z_int (by decide +kernel) (pa_cons (pe_ix ix_list (pv 0) pe_int (fun _ _ => rfl)) pa_nil)) (pv 1)))
      (pss_cons (ps_asg (pe_op op_fdivW (pe_ix ix_list (pv 0) pe_int (fun _ _ => rfl)) (pv 1)) (pg_sub (pv 0) pe_int set_list))
      (pss_one (ps_ret (pv 2)))))
      pss_nil)
    (pss_cons (ps_asg (pe_op op_add (pe_ix ix_list (pv 0) pe_int (fun _ _ => rfl)) pe_int) (pg_sub (pv 0) pe_int set_list))
    (pss_cons (ps_set (i := 3) sc_law_roll.nd rfl (.inl rfl) (pe_op op_mod (pe_callTy call_int1 (by rfl) T.z_int (by decide +kernel) (pa_cons (pe_op op_add (pe_ix ix_list (pv 0) pe_int (fun _ _ => rfl)) (pe_op op_mul pe_int (pe_ix ix_list (pv 0) pe_int (fun _ _ => rfl)))) pa_nil)) pe_int))
    (pss_cons (ps_set (i := 4) sc_law_roll.nd rfl (.inl rfl) (pe_op op_add (pe_op op_mul (pe_op op_mod (pe_callTy call_int1 (by rfl) T.z_int (by decide +kernel) (pa_cons (pe_op op_add (pe_op op_mul (pv 3) (pv 3)) (pe_op op_mul pe_int (pe_ix ix_list (pv 0) pe_int (fun _ _ => rfl)))) pa_nil)) pe_int) pe_int) (pv 3)))
    (pss_one (ps_ret (pe_op op_mod (pe_callTy call_int1 (by rfl) T.z_int (by decide +kernel) (pa_cons (pe_op op_fdivW (pv 4) pe_int) pa_nil)) (pv 1))))))))), ?_⟩
    refine ⟨.ref a, rfl, a, _, 0, .int x, rfl, rfl, hS, atI_nat (j := 0) rfl, x, 0, rfl, rfl, decide (0 < x), rfl, ite2 (fun _ => ?_) (fun _ => ?_)⟩
    · refine ⟨.ref a, rfl, a, _, 0, .int x, rfl, rfl, hS, atI_nat (j := 0) rfl, .inl ⟨x, rfl, .int n, rfl, x, n, rfl, rfl, h0, ?_⟩⟩
      refine ⟨.ref a, rfl, a, _, 0, .int x, rfl, rfl, hS, atI_nat (j := 0) rfl, .int n, rfl, x, n, rfl, rfl, ⟨h0, h1⟩, ?_⟩
      refine ⟨.ref a, rfl, a, _, 0, 0, rfl, rfl, hd, rfl, ?_⟩
      exact ⟨_, rfl, q (x % n) (x / n) z (Int.emod_nonneg _ (by omega)) (Int.emod_lt_of_pos _ h0)⟩
    · refine ⟨.ref a, rfl, a, _, 2, .int z, rfl, rfl, hS, atI_nat (j := 2) rfl, z, 1, rfl, rfl, ?_⟩
      refine ⟨.ref a, rfl, a, _, 2, 2, rfl, rfl, hd, rfl, ?_⟩
      have hd' : (upd H a (dice x y (z + 1))) a = some (dice x y (z + 1)) := upd_same
      have hS' : SqL K (upd H a (dice x y (z + 1))) a [.int x, .int y, .int (z + 1)] := SqL.of hd'
      refine ⟨.ref a, rfl, a, _, 1, .int y, rfl, rfl, hS', atI_nat (j := 1) rfl, .ref a, rfl, a, _, 2, .int (z + 1), rfl, rfl, hS', atI_nat (j := 2) rfl, _, _, rfl, rfl, .inl ⟨by decide, by decide⟩, _, _, rfl, rfl, .inl ⟨_, rfl, _, _, rfl, rfl, (by decide : (0 : Int) < 2305843009213691579), ?_⟩⟩
      have b0 := Int.emod_nonneg (y + 92821991 * (z + 1)) (show (2305843009213691579 : Int) ≠ 0 by decide)
      have b1 := Int.emod_lt_of_pos (y + 92821991 * (z + 1)) (show (0 : Int) < 2305843009213691579 by decide)
      refine ⟨_, rfl, _, rfl, _, _, rfl, rfl, .inl ⟨Int.lt_of_lt_of_le (by decide) b0, Int.lt_trans b1 (by decide)⟩, .ref a, rfl, a, _, 2, .int (z + 1), rfl, rfl, hS', atI_nat (j := 2) rfl, _, _, rfl, rfl, .inl ⟨by decide, by decide⟩, _, _, rfl, rfl, .inl ⟨_, rfl, _, _, rfl, rfl, (by decide : (0 : Int) < 2305843009213692227), _, _, rfl, rfl, .inr ⟨by decide, by decide⟩, _, rfl, _, _, rfl, rfl, ?_⟩⟩
      refine ⟨_, rfl, _, _, rfl, rfl, ⟨by decide, by decide +kernel⟩, .inl ⟨_, rfl, .int n, rfl, _, _, rfl, rfl, h0, ?_⟩⟩
      exact q _ x (z + 1) (Int.emod_nonneg _ (by omega)) (Int.emod_lt_of_pos _ h0)
def spPick (K : PySem.W.Frag) : Sp := fun vs H Q _ => ∃ (a b : Addr) (x y z : Int) (xs : List V), vs = [.ref a, .ref b] ∧ H a = some (dice x y z) ∧ H b = some (.lst xs) ∧ a ≠ b ∧ 0 < xs.length ∧ xs.length < 1000 ∧
  ∀ (i : Nat) v x' z', xs[i]? = some v → Q v (upd H a (dice x' y z'))
theorem ok_law_pick (T : Facts K mg) : FnOk P w K mg base CX0 2 T.f_law_pick T.fd_law_pick ["_law_dice_here", "_law_items"] (spPick K) := by
  have G_law_roll : FnOk P w K mg base CX0 1 T.f_law_roll T.fd_law_roll ["_law_dice_here", "_law_total"] spRoll := ok_law_roll T
  refine T.F_law_pick.ok sc_law_pick (fun vs H Q E h => ?_) (fun cdv A outer s H vs Q E hr h => ?_)
  · obtain ⟨a, b, x, y, z, xs, rfl, _⟩ := h
    rfl
  · obtain ⟨a, b, x, y, z, xs, rfl, hd, hb, hab, l0, l1, q⟩ := h
    refine ⟨_, (PSs.nox (pss_one (ps_ret (pe_ix ix_list (pv 1) (pe_call G_law_roll hr (by rfl) T.g_law_roll T.F_law_roll.kp T.b_law_roll .nil pass0 (pa_cons (pv 0) (pa_cons (pe_callB call_len_seq (by rfl) T.z_len (by decide +kernel) (pa_cons (pv 1) pa_nil)) pa_nil))) (fun _ _ => rfl))))), ?_⟩
    refine ⟨.ref b, rfl, .ref a, rfl, .ref b, rfl, b, xs, rfl, .inl (SqL.of hb), ?_⟩
    refine ⟨a, x, y, z, _, rfl, hd, (by omega : (0 : Int) < (xs.length : Int)), Nat.lt_trans (PySem.Flt.log2_lt_of (k := 10) (by decide) (by show xs.length < 2 ^ 10; omega)) (by decide), fun r x' z' h1 h2 => ?_⟩
    obtain ⟨j, rfl⟩ := Int.eq_ofNat_of_zero_le h1
    have hj : j < xs.length := by omega
    exact ⟨b, xs, j, xs[j], rfl, rfl, SqL.of (by rw [upd_ne (Ne.symm hab)]; exact hb), atI_nat (List.getElem?_eq_getElem hj), q j _ x' z' (List.getElem?_eq_getElem hj)⟩
def spRoll2 : Sp := fun vs H Q _ => ∃ (a : Addr) (n : Int), vs = [.ref a, .int n] ∧ Dc H a ∧ 0 < n ∧ n.natAbs.log2 < 9000 ∧ ∀ (r : Nat) H', (r : Int) < n → Sx a H H' → Dc H' a → Q (.int r) H'
theorem roll2 : ∀ vs H Q E, spRoll2 vs H Q E → spRoll vs H Q E := fun vs H Q E h => by
  obtain ⟨a, n, rfl, ⟨x, y, z, e⟩, h0, h1, q⟩ := h
  refine ⟨a, x, y, z, n, rfl, e, h0, h1, fun r x' z' r0 r1 => ?_⟩
  obtain ⟨j, rfl⟩ := Int.eq_ofNat_of_zero_le r0
  exact q j _ r1 Sx.upd ⟨x', y, z', upd_same⟩
def spPick2 : Sp := fun vs H Q _ => ∃ (a b : Addr) (xs : List V), vs = [.ref a, .ref b] ∧ Dc H a ∧ H b = some (.lst xs) ∧ b ≠ a ∧ 0 < xs.length ∧ xs.length < 1000 ∧ ∀ v H', v ∈ xs → Sx a H H' → Dc H' a → Q v H'
theorem pick2 {K : PySem.W.Frag} : ∀ vs H Q E, spPick2 vs H Q E → spPick K vs H Q E := fun vs H Q E h => by
  obtain ⟨a, b, xs, rfl, ⟨x, y, z, e⟩, hb, ne, l0, l1, q⟩ := h
  exact ⟨a, b, x, y, z, xs, rfl, e, hb, Ne.symm ne, l0, l1, fun i v x' z' hv => q v _ (List.mem_of_getElem? hv) Sx.upd ⟨x', y, z', upd_same⟩⟩
def spNear : Sp := fun vs H Q _ => ∃ (a : Addr) (m : Int), vs = [.ref a, .int m] ∧ Dc H a ∧ 0 ≤ m ∧ m ≤ 10 ^ 15 ∧ ∀ r H', -m ≤ r → r ≤ m → Sx a H H' → Dc H' a → Q (.int r) H'
theorem ok_law_near (T : Facts K mg) : FnOk P w K mg base CX0 2 T.f_law_near T.fd_law_near ["_law_dice_here", "_law_most"] spNear := by
  have G_law_roll : FnOk P w K mg base CX0 1 T.f_law_roll T.fd_law_roll ["_law_dice_here", "_law_total"] spRoll2 := (ok_law_roll T).imp roll2
  refine T.F_law_near.ok sc_law_near (fun vs H Q E h => ?_) (fun cdv A outer s H vs Q E hr h => ?_)
  · obtain ⟨a, m, rfl, _⟩ := h
    rfl
  · obtain ⟨a, m, rfl, hd, h0, h1, q⟩ := h
    refine ⟨_, (PSs.nox (pss_one (ps_ret (pe_op op_sub (pe_call G_law_roll hr (by rfl) T.g_law_roll T.F_law_roll.kp T.b_law_roll .nil pass0 (pa_cons (pv 0) (pa_cons (pe_op op_add (pe_op op_mul pe_int (pv 1)) pe_int) pa_nil))) (pv 1))))), ?_⟩
    have e15 : (10 : Int) ^ 15 = 1000000000000000 := by decide
    rw [e15] at h1
    refine ⟨_, rfl, _, rfl, _, _, rfl, rfl, .inl ⟨by decide, by decide⟩, _, _, rfl, rfl, a, _, rfl, hd, (by show 0 < 2 * m + 1; omega), ?_, fun r H' hr s d => ⟨_, rfl, _, _, rfl, rfl, ?_⟩⟩
    · refine Nat.lt_trans (PySem.Flt.log2_lt_of (k := 60) (by decide) ?_) (by decide)
      show (2 * m + 1).natAbs < 2 ^ 60
      omega
    · have hr' : (r : Int) < 2 * m + 1 := hr
      exact q _ H' (by omega) (by omega) s d
end
theorem take_snoc {xs : List Int} {i : Nat} (h : i < xs.length) : xs.take (i + 1) = xs.take i ++ [co xs i] := by
  rw [List.take_add_one, List.getElem?_eq_getElem h, co_get h]
  rfl
theorem int_get {xs : List Int} {i : Nat} {x : V} (h : (xs.map V.int)[i]? = some x) : i < xs.length ∧ x = .int (co xs i) := by
  have hi : i < xs.length := by
    have := (List.getElem?_eq_some_iff.mp h).1
    rw [List.length_map] at this
    exact this
  rw [get_int hi] at h
  cases h
  exact ⟨hi, rfl⟩
theorem tab_snoc (n : Nat) (f : Nat → Int) : tab n f ++ [V.int (f n)] = tab (n + 1) f := by
  unfold tab
  rw [List.range_succ, List.map_append]
  rfl
section
variable {P : Program} {w : World} {K : PySem.W.Frag} {mg : Str → Option Value} {base : Heap}
end
section
variable {P : Program} {w : World} {K : PySem.W.Frag} {mg : Str → Option Value} {base : Heap}
end
section
variable {P : Program} {w : World} {K : PySem.W.Frag} {mg : Str → Option Value} {base : Heap}
end
section
variable {P : Program} {w : World} {K : PySem.W.Frag} {mg : Str → Option Value} {base : Heap}
theorem dc_ne {H : Hp} {d p : Addr} {xs : List V} (hd : Dc H d) (hp : H p = some (.tup xs)) : p ≠ d := fun e => by
  obtain ⟨x, y, z, h⟩ := hd
  rw [e, h] at hp
  cases hp
end
/-! how large the entries of products are -/
section
variable {P : Program} {w : World} {K : PySem.W.Frag} {mg : Str → Option Value} {base : Heap}
end
section
variable {P : Program} {w : World} {K : PySem.W.Frag} {mg : Str → Option Value} {base : Heap}
end
/-! the primitive row of a primitive row -/
/-! sums of rows, rows of 0 -/
section
variable {P : Program} {w : World} {K : PySem.W.Frag} {mg : Str → Option Value} {base : Heap}
end
/-! what is said of forms by those who use them (for other laws: K01u, K01v, K01y hold the same) -/
section
variable {P : Program} {w : World} {K : PySem.W.Frag} {mg : Str → Option Value} {base : Heap}
theorem shaped_lints (ns : List Int) : SeqAt.shaped (.list (ns.map PyData.int)) = true := by
  unfold SeqAt.shaped
  rw [show PyData.canLay0 (.list (ns.map PyData.int)) = PyData.canLayAll0 (ns.map PyData.int) from rfl, lay_ints]
  rw [show PyData.depth (.list (ns.map PyData.int)) = PyData.depthAll (ns.map PyData.int) + 1 from rfl, depth_ints]
  rfl
end
/-! values of forms; a form is told by its values -/
/-! changed forms, derived forms: the plain law -/
section
variable {P : Program} {w : World} {K : PySem.W.Frag} {mg : Str → Option Value} {base : Heap}
/-! ### changes -/
/-- a table of two rows of two -/
def Tb (H : Hp) (t : Addr) (X Y : List Int) : Prop := ∃ r0 r1, H t = some (.tup [.ref r0, .ref r1]) ∧ H r0 = some (tp X) ∧ H r1 = some (tp Y)
theorem Tb.same {H H' : Hp} {t : Addr} {X Y : List Int} (h : Tb H t X Y) (s : Same H H') : Tb H' t X Y := by
  obtain ⟨r0, r1, h1, h2, h3⟩ := h
  exact ⟨r0, r1, s _ _ h1, s _ _ h2, s _ _ h3⟩
end
section
variable {P : Program} {w : World} {K : PySem.W.Frag} {mg : Str → Option Value} {base : Heap}
end
section
variable {P : Program} {w : World} {K : PySem.W.Frag} {mg : Str → Option Value} {base : Heap}
end
section
variable {P : Program} {w : World} {K : PySem.W.Frag} {mg : Str → Option Value} {base : Heap}
end
section
variable {P : Program} {w : World} {K : PySem.W.Frag} {mg : Str → Option Value} {base : Heap}
end
section
variable {P : Program} {w : World} {K : PySem.W.Frag} {mg : Str → Option Value} {base : Heap}
end
section
variable {P : Program} {w : World} {K : PySem.W.Frag} {mg : Str → Option Value} {base : Heap}
end
section
variable {P : Program} {w : World} {K : PySem.W.Frag} {mg : Str → Option Value} {base : Heap}
end
section
variable {P : Program} {w : World} {K : PySem.W.Frag} {mg : Str → Option Value} {base : Heap}
end
section
variable {P : Program} {w : World} {K : PySem.W.Frag} {mg : Str → Option Value} {base : Heap}
end
section
variable {P : Program} {w : World} {K : PySem.W.Frag} {mg : Str → Option Value} {base : Heap}
end
end K01

set_option Elab.async false
set_option linter.all false
set_option maxRecDepth 100000
set_option maxHeartbeats 4000000
namespace K01
open PySem PySem.Spec PyProof.Rows L2 StX RZ MyR SlX OwnR OwnF EnumT GxR GenNx FDivQ
def Tg (Ps : List Addr) (H : Hp) : Prop := ∀ P ∈ Ps, TabG H P
def Sts (Ps : List Addr) (H H' : Hp) : Prop := ∀ b o, b ∉ Ps → H b = some o → H' b = some o
/-- all but the dice at d and the tables Ps stays -/
def Sy (d : Addr) (Ps : List Addr) (H H' : Hp) : Prop := ∀ b o, b ≠ d → b ∉ Ps → H b = some o → H' b = some o
theorem Sts.rf (Ps : List Addr) (H : Hp) : Sts Ps H H := fun _ _ _ e => e
theorem Sts.of {Ps : List Addr} {H H' : Hp} (s : Same H H') : Sts Ps H H' := fun b o _ h => s b o h
theorem Sts.trans {Ps : List Addr} {H H1 H2 : Hp} (s : Sts Ps H H1) (t : Sts Ps H1 H2) : Sts Ps H H2 := fun b o n h => t b o n (s b o n h)
theorem Sy.rf (d : Addr) (Ps : List Addr) (H : Hp) : Sy d Ps H H := fun _ _ _ _ e => e
theorem Sy.of {d : Addr} {Ps : List Addr} {H H' : Hp} (s : Same H H') : Sy d Ps H H' := fun b o _ _ h => s b o h
theorem Sy.ofD {d : Addr} {Ps : List Addr} {H H' : Hp} (s : Sx d H H') : Sy d Ps H H' := fun b o n _ h => s b o n h
theorem Sy.ofP {d : Addr} {Ps : List Addr} {H H' : Hp} (s : Sts Ps H H') : Sy d Ps H H' := fun b o _ n h => s b o n h
theorem Sy.trans {d : Addr} {Ps : List Addr} {H H1 H2 : Hp} (s : Sy d Ps H H1) (t : Sy d Ps H1 H2) : Sy d Ps H H2 := fun b o n m h => t b o n m (s b o n m h)
theorem tabS {P : Addr} {H H' : Hp} (t : TabG H P) (s : Same H H') : TabG H' P := by
  obtain ⟨ps, h, k⟩ := t
  exact ⟨ps, s _ _ h, k⟩
theorem Tg.same {Ps : List Addr} {H H' : Hp} (t : Tg Ps H) (s : Same H H') : Tg Ps H' := fun P m => tabS (t P m) s
theorem Tg.sx {Ps : List Addr} {d : Addr} {H H' : Hp} (t : Tg Ps H) (s : Sx d H H') (hd : Dc H d) : Tg Ps H' := fun P m => by
  obtain ⟨ps, h, k⟩ := t P m
  obtain ⟨x, y, z, e⟩ := hd
  refine ⟨ps, s _ _ (fun q => ?_) h, k⟩
  rw [q, e] at h
  cases h
theorem Tg.ne {Ps : List Addr} {H : Hp} {a : Addr} {o : HO} (t : Tg Ps H) (h : H a = some o) (ho : ∀ ps, o ≠ .tbl ps) : a ∉ Ps := fun m => by
  obtain ⟨ps, e, _⟩ := t a m
  rw [h] at e
  exact ho ps (Option.some.inj e)
theorem Tg.sts {Ps : List Addr} {H H1 H' : Hp} (t : Tg Ps H1) (s : Sts Ps H H1) (s2 : Same H1 H') : Tg Ps H' := t.same s2
theorem tbd_sts {Ps : List Addr} {P : Addr} {H H' : Hp} (t : Tabbed P H H') (h : P ∈ Ps) : Sts Ps H H' := fun b o nb e => (t.2 b (fun z => nb (z ▸ h))).trans e
theorem tbd_tg {Ps : List Addr} {P : Addr} {H H' : Hp} (t : Tabbed P H H') (g : Tg Ps H) : Tg Ps H' := fun P' m => by
  by_cases e : P' = P
  · rw [e]
    exact t.1
  · obtain ⟨ps, h, k⟩ := g P' m
    exact ⟨ps, (t.2 P' e).trans h, k⟩
theorem Sts.tup {Ps : List Addr} {H H' : Hp} {t : Addr} {xs : List V} (s : Sts Ps H H') (g : Tg Ps H) (h : H t = some (.tup xs)) : H' t = some (.tup xs) := s _ _ (g.ne h fun _ e => by cases e) h
theorem Sts.lst {Ps : List Addr} {H H' : Hp} {t : Addr} {xs : List V} (s : Sts Ps H H') (g : Tg Ps H) (h : H t = some (.lst xs)) : H' t = some (.lst xs) := s _ _ (g.ne h fun _ e => by cases e) h
theorem Sts.dc {Ps : List Addr} {d : Addr} {H H' : Hp} (s : Sts Ps H H') (g : Tg Ps H) (h : Dc H d) : Dc H' d := by
  obtain ⟨x, y, z, e⟩ := h
  exact ⟨x, y, z, s _ _ (g.ne e fun _ e => by cases e) e⟩
/-- dice and the tables -/
structure Dp (d : Addr) (Ps : List Addr) (H : Hp) : Prop where
  dd : Dc H d
  tt : Tg Ps H
theorem Dp.same {d : Addr} {Ps : List Addr} {H H' : Hp} (D : Dp d Ps H) (s : Same H H') : Dp d Ps H' := ⟨D.dd.same s, D.tt.same s⟩
theorem Dp.sx {d : Addr} {Ps : List Addr} {H H' : Hp} (D : Dp d Ps H) (s : Sx d H H') (h : Dc H' d) : Dp d Ps H' := ⟨h, D.tt.sx s D.dd⟩
theorem Dp.sp {d : Addr} {Ps : List Addr} {H H' : Hp} (D : Dp d Ps H) (s : Sts Ps H H') (h : Tg Ps H') : Dp d Ps H' := ⟨s.dc D.tt D.dd, h⟩
theorem Dp.tup {d : Addr} {Ps : List Addr} {H H' : Hp} {t : Addr} {xs : List V} (D : Dp d Ps H) (s : Sy d Ps H H') (h : H t = some (.tup xs)) : H' t = some (.tup xs) := s _ _ (dc_ne D.dd h) (D.tt.ne h fun _ e => by cases e) h
theorem script_Sy {K : PySem.W.Frag} {d a : Addr} {Ps : List Addr} {H H' : Hp} {o : HO} {xs : List V} (s : Sy d Ps (upd H d o) H') (n : H d = none) (t : Tg Ps H) (h : SqL K H a xs) : SqL K H' a xs := by
  rcases h with (h | ⟨u, h⟩) | h
  · have ne : a ≠ d := ne_of_none h n
    exact .inl (.inl (s a _ ne (t.ne h fun _ e => by cases e) (by rw [upd_ne ne]; exact h)))
  · have ne : a ≠ d := ne_of_none h n
    exact .inl (.inr ⟨u, s a _ ne (t.ne h fun _ e => by cases e) (by rw [upd_ne ne]; exact h)⟩)
  · exact .inr h
def spLawT (K : PySem.W.Frag) (Ps : List Addr) : Sp := fun vs H Q _ => ∃ (a : Addr) (ns : List Int), vs = [.ref a] ∧ SqL K H a (ns.map V.int) ∧ ns.length ≤ 63 ∧ Tg Ps H ∧ ∀ H', Q (.bl true) H'
/-! ### rows: their common divisor, their first entry other than 0 -/
def gl (l : List Int) : Nat := l.foldl (fun a x => Nat.gcd a x.natAbs) 0
theorem gl_snoc (l : List Int) (x : Int) : gl (l ++ [x]) = Nat.gcd (gl l) x.natAbs := by
  unfold gl
  rw [List.foldl_append]
  rfl
def fo (l : List Int) : Int := (l.find? (· != 0)).getD 0
theorem fo_of {l : List Int} {r : Int} (h : FirstOf (fun i => i != 0) l 0 r) : r = fo l := by
  unfold fo
  rcases h with ⟨h, rfl⟩ | ⟨i, h1, h2, h3⟩
  · have e : l.find? (· != 0) = none := List.find?_eq_none.mpr fun x hx => by
      obtain ⟨j, hj, e⟩ := List.mem_iff_getElem.mp hx
      have q : (x != 0) = false := h j x (by rw [List.getElem?_eq_getElem hj, e])
      rw [q]
      exact Bool.false_ne_true
    rw [e]
    rfl
  · obtain ⟨hi, e⟩ := List.getElem?_eq_some_iff.mp h1
    have e2 : l.find? (· != 0) = some r := List.find?_eq_some_iff_getElem.mpr ⟨h2, i, hi, e, fun j hj => by
      have q : (l[j] != 0) = false := h3 j _ hj (List.getElem?_eq_getElem (Nat.lt_trans hj hi))
      rw [q]
      rfl⟩
    rw [e2]
    rfl
abbrev ls (ns : List Int) : HO := .lst (ns.map V.int)
section
variable {P : Program} {w : World} {K : PySem.W.Frag} {mg : Str → Option Value} {base : Heap} {Ps : List Addr}
/-! ### the law's own gcd -/
def spLGcd : Sp := fun vs H Q _ => ∃ t b : Int, vs = [.int t, .int b] ∧ Q (.int ((Nat.gcd t.natAbs b.natAbs : Nat) : Int)) H
def yOf : L2.St → Nat
  | [_, some (.int y)] => y.toNat
  | _ => 0
theorem abs_nat (i : Int) : (if i < 0 then -i else i) = (i.natAbs : Int) := by split <;> omega
theorem ok_law_gcd (T : Facts K mg) : FnOk P w K mg base CX0 1 T.f_law_gcd T.fd_law_gcd ["_law_one", "_law_other"] spLGcd := by
  refine T.F_law_gcd.ok sc_law_gcd (fun vs H Q E h => ?_) (fun cdv A outer s H vs Q E hr h => ?_)
  · obtain ⟨t, b, rfl, _⟩ := h
    rfl
  · obtain ⟨t, b, rfl, q⟩ := h
    refine ⟨_, (PSs.nox (pss_cons (ps_par (i := 0) (j := 1) (by rfl) sc_law_gcd.nd rfl rfl (by decide) rfl rfl (pa_cons (pe_callB call_abs (by rfl) T.z_abs (by decide +kernel) (pa_cons (pv 0) pa_nil)) (pa_cons (pe_callB call_abs (by rfl) T.z_abs (by decide +kernel) (pa_cons (pv 1) pa_nil)) pa_nil)) (by rfl))
    (pss_cons (ps_while PassesOwn.never (pt_cmpR op_gt (pv 1) pe_int (nomark _))
      (pss_one (ps_par (i := 0) (j := 1) (by rfl) sc_law_gcd.nd rfl rfl (by decide) rfl rfl (pa_cons (pv 1) (pa_cons (pe_op op_mod (pe_callTy call_int1 (by rfl) T.z_int (by decide +kernel) (pa_cons (pv 0) pa_nil)) (pv 1)) pa_nil)) (by rfl))))
    (pss_one (ps_ret (pv 0)))))), ?_⟩
    refine ⟨_, rfl, t, rfl, _, rfl, b, rfl, _, _, rfl, ?_⟩
    rw [abs_nat, abs_nat]
    refine while_by (fun σ H' => ∃ x y : Nat, σ = [some (.int x), some (.int y)] ∧ Nat.gcd x y = Nat.gcd t.natAbs b.natAbs ∧ H' = H) (fun σ _ => yOf σ) ⟨_, _, rfl, rfl, rfl⟩ (fun σ H' hP => ?_) (fun σ H' Q1 Q2 hQ h => ?_)
    · obtain ⟨x, y, rfl, hg, rfl⟩ := hP
      refine ⟨_, rfl, _, _, rfl, rfl, _, rfl, ?_⟩
      by_cases c : 0 < (y : Int)
      · rw [decide_eq_true c]
        refine iteT ⟨_, rfl, _, rfl, .inl ⟨_, rfl, _, rfl, _, _, rfl, rfl, c, _, _, rfl, ?_⟩⟩
        have e : (x : Int) % (y : Int) = ((x % y : Nat) : Int) := (Int.natCast_emod x y).symm
        refine ⟨⟨y, x % y, ?_, ?_, rfl⟩, ?_⟩
        · show [some (V.int y), some (V.int ((x : Int) % (y : Int)))] = _
          rw [e]
        · rw [← hg, Nat.gcd_comm x y, Nat.gcd_rec y x, Nat.gcd_comm]
        · show ((x : Int) % (y : Int)).toNat < (y : Int).toNat
          rw [e]
          have := Nat.mod_lt x (show y > 0 by omega)
          omega
      · rw [decide_eq_false c]
        have ey : y = 0 := by omega
        subst ey
        refine iteF ⟨_, rfl, ?_⟩
        rw [← hg, Nat.gcd_zero_right] at q
        exact q
    · obtain ⟨v, e, x1, x2, e1, e2, k, e3, h⟩ := h
      exact ⟨v, e, x1, x2, e1, e2, k, e3, hQ _ _ h⟩
def spSharedL (K : PySem.W.Frag) : Sp := fun vs H Q _ => ∃ (t : Addr) (ns : List Int), vs = [.ref t] ∧ SqL K H t (ns.map V.int) ∧ Q (.int (gl ns : Nat)) H
theorem ok_shared_of (T : Facts K mg) : FnOk P w K mg base CX0 1 T.f_shared_of T.fd_shared_of ["numbers"] (spSharedL K) := by
  refine T.F_shared_of.ok sc_shared_of (fun vs H Q E h => ?_) (fun cdv A outer s H vs Q E hr h => ?_)
  · obtain ⟨t, ns, rfl, _⟩ := h
    rfl
  · obtain ⟨t, ns, rfl, ht, q⟩ := h
    refine ⟨_, (PSs.nox (pss_cons (ps_set (i := 1) sc_shared_of.nd rfl (.inl rfl) pe_int)
    (pss_cons (ps_for PassesOwn.never (by rfl) (pi_list (pv 0)) (pg_name (i := 2) sc_shared_of.nd rfl (.inl rfl))
      (pss_one (ps_set (i := 1) sc_shared_of.nd rfl (.inl rfl) (pe_callBfun cr_gcd (by rfl) T.m_gcd (pa_cons (pv 1) (pa_cons (pv 2) pa_nil))))))
    (pss_one (ps_ret (pv 1)))))), ?_⟩
    refine ⟨_, rfl, t, rfl, ⟨_, ht⟩, for_list (xs := ns.map V.int) (fun i σ H' => ∃ y, σ = [some (.ref t), some (.int ((gl (ns.take i) : Nat) : Int)), y] ∧ H' = H) ⟨none, rfl, rfl⟩ (fun i σ H' _ hP => by rw [hP.choose_spec.2]; exact ht) (fun i x σ H' hx hP => ?_) (fun σ H' hP => ?_)⟩
    · obtain ⟨y, rfl, rfl⟩ := hP
      obtain ⟨hi, rfl⟩ := int_get hx
      refine ⟨_, rfl, _, rfl, _, _, rfl, some (.int (co ns i)), ?_, rfl⟩
      rw [take_snoc hi, gl_snoc]
      rfl
    · obtain ⟨y, rfl, rfl⟩ := hP
      rw [List.length_map, List.take_length]
      exact ⟨_, rfl, q⟩
def spSharedS (K : PySem.W.Frag) : Sp := fun vs H Q _ => ∃ (t : Addr) (ns : List Int), vs = [.ref t] ∧ (SqT K H t (ns.map V.int) ∨ SqL K H t (ns.map V.int)) ∧ Q (.int (gl ns : Nat)) H
theorem ok_law_shared (T : Facts K mg) : FnOk P w K mg base CX0 2 T.f_law_shared T.fd_law_shared ["_law_numbers"] (spSharedS K) := by
  have G_law_gcd : FnOk P w K mg base CX0 1 T.f_law_gcd T.fd_law_gcd ["_law_one", "_law_other"] spLGcd := ok_law_gcd T
  refine T.F_law_shared.ok sc_law_shared (fun vs H Q E h => ?_) (fun cdv A outer s H vs Q E hr h => ?_)
  · obtain ⟨t, ns, rfl, _⟩ := h
    rfl
  · obtain ⟨t, ns, rfl, ht, q⟩ := h
    refine ⟨_, (PSs.nox (pss_cons (ps_set (i := 1) sc_law_shared.nd rfl (.inl rfl) pe_int)
    (pss_cons (ps_for PassesOwn.never (by rfl) (SeqE.PI_or (pi_tup (pv 0)) (pi_list (pv 0))) (pg_name (i := 2) sc_law_shared.nd rfl (.inl rfl))
      (pss_one (ps_set (i := 1) sc_law_shared.nd rfl (.inl rfl) (pe_call G_law_gcd hr (by rfl) T.g_law_gcd T.F_law_gcd.kp T.b_law_gcd .nil pass0 (pa_cons (pv 1) (pa_cons (pv 2) pa_nil))))))
    (pss_one (ps_ret (pv 1)))))), ?_⟩
    rcases ht with ht | ht
    · refine .inl ⟨_, rfl, t, rfl, ⟨_, ht⟩, for_tup (xs := ns.map V.int) (fun i σ H' => ∃ y, σ = [some (.ref t), some (.int ((gl (ns.take i) : Nat) : Int)), y] ∧ H' = H) ⟨none, rfl, rfl⟩ (fun i σ H' _ hP => by rw [hP.choose_spec.2]; exact ht) (fun i x σ H' hx hP => ?_) (fun σ H' hP => ?_)⟩
      · obtain ⟨y, rfl, rfl⟩ := hP
        obtain ⟨hi, rfl⟩ := int_get hx
        refine ⟨_, rfl, _, rfl, _, _, rfl, some (.int (co ns i)), ?_, rfl⟩
        rw [take_snoc hi, gl_snoc]
        rfl
      · obtain ⟨y, rfl, rfl⟩ := hP
        rw [List.length_map, List.take_length]
        exact ⟨_, rfl, q⟩
    · refine .inr ⟨_, rfl, t, rfl, ⟨_, ht⟩, for_list (xs := ns.map V.int) (fun i σ H' => ∃ y, σ = [some (.ref t), some (.int ((gl (ns.take i) : Nat) : Int)), y] ∧ H' = H) ⟨none, rfl, rfl⟩ (fun i σ H' _ hP => by rw [hP.choose_spec.2]; exact ht) (fun i x σ H' hx hP => ?_) (fun σ H' hP => ?_)⟩
      · obtain ⟨y, rfl, rfl⟩ := hP
        obtain ⟨hi, rfl⟩ := int_get hx
        refine ⟨_, rfl, _, rfl, _, _, rfl, some (.int (co ns i)), ?_, rfl⟩
        rw [take_snoc hi, gl_snoc]
        rfl
      · obtain ⟨y, rfl, rfl⟩ := hP
        rw [List.length_map, List.take_length]
        exact ⟨_, rfl, q⟩
def spFirstOf (K : PySem.W.Frag) (Ps : List Addr) : Sp := fun vs H Q _ => ∃ (t : Addr) (l : List Int), vs = [.ref t] ∧ SqL K H t (l.map V.int) ∧ Tg Ps H ∧ ∀ H', Sts Ps H H' → Tg Ps H' → Q (.int (fo l)) H'
theorem ok_first_of (T : Facts K mg) (TB_first_of : TabB base mg T.c_first_of T.P_first_of) (hP : T.P_first_of ∈ Ps) : FnOk P w K mg base CX0 1 T.f_first_of T.fd_first_of ["numbers"] (spFirstOf K Ps) := by
  refine HookT.okC T.F_first_of sc_first_of (fun vs H Q E h => ?_) (fun A outer s H vs Q E hr h => ?_)
  · obtain ⟨t, l, rfl, _⟩ := h
    rfl
  · obtain ⟨t, l, rfl, ht, hG, q⟩ := h
    refine ⟨_, (PSs.nox (pss_one (ps_ret (GenNl.pe_nextL hr (by rfl) T.z_next TB_first_of T.code_first_of (GenNx.genS_of rfl rfl (by decide +kernel) rfl rfl) (pv 0) (GenNx.test_ne0 rfl rfl))))), ?_⟩
    refine ⟨_, rfl, t, l, rfl, ht, hG _ hP, fun r H2 hr2 hT => ?_⟩
    have q2 := q H2 (tbd_sts hT hP) (tbd_tg hT hG)
    rw [← fo_of hr2] at q2
    exact q2
end
end K01

set_option Elab.async false
set_option linter.all false
set_option maxRecDepth 100000
set_option maxHeartbeats 4000000
namespace K01
open PySem PySem.Spec PyProof.Rows L2 StX RZ MyR SlX OwnR OwnF EnumT GxR GenNx FDivQ
/-- a comprehension over zip of two lists of one length -/
theorem lc_zipL {K : PySem.W.Frag} {a b : Addr} {xs ys : List V} {g : TG} {tt : TT} {te : TE} {vs : List Nat} {σ : L2.St} {H1 : Hp} {D : Addr} {Qd : Hp → Prop} (hl : xs.length = ys.length) (Pv : Nat → Hp → Prop) (h0 : Pv 0 (upd H1 D (.lst []))) (hq : ∀ i H, i ≤ xs.length → Pv i H → SqL K H a xs ∧ SqL K H b ys)
    (hs : ∀ (i : Nat) (x y : V) (T : Addr) (H : Hp), xs[i]? = some x → ys[i]? = some y → Pv i H → H T = none → g (.ref T) (wipe σ vs) (upd H T (.tup [x, y])) fun σ2 H2 => wipe σ2 vs = wipe σ vs ∧ tt σ2 H2 fun b H3 =>
      if b = true then te σ2 H3 fun y H4 => ∃ acc, H4 D = some (.lst acc) ∧ acc.length < sizeLine ∧ Pv (i + 1) (upd H4 D (.lst (acc ++ [y]))) else Pv (i + 1) H3) (hd : ∀ H, Pv xs.length H → Qd H) :
    ∃ W : Nat → Nat → Hp → Prop, (∃ m, W 0 m (upd H1 D (.lst []))) ∧ ∀ i m H, W i m H →
      ((Itz K a b).stop i H ∧ Qd H) ∨ ((Itz K a b).go i H ∧ ∃ Nx : Hp → Prop, (∀ H', Nx H' → ∃ m', m' < m ∧ W (i + 1) m' H') ∧ ∀ x H', (Itz K a b).yld i H x H' → g x (wipe σ vs) H' fun σ2 H2 => wipe σ2 vs = wipe σ vs ∧ tt σ2 H2 fun b H3 =>
        if b = true then te σ2 H3 fun y H4 => ∃ acc, H4 D = some (.lst acc) ∧ acc.length < sizeLine ∧ Nx (upd H4 D (.lst (acc ++ [y]))) else Nx H3) := by
  refine ⟨fun i m H => m = xs.length - i ∧ i ≤ xs.length ∧ Pv i H, ⟨xs.length, by simp, Nat.zero_le _, h0⟩, ?_⟩
  rintro i m H ⟨rfl, hi, p⟩
  obtain ⟨qx, qy⟩ := hq i H hi p
  by_cases hlt : i < xs.length
  · have hlt2 : i < ys.length := by omega
    have hx : xs[i]? = some xs[i] := List.getElem?_eq_getElem hlt
    have hy : ys[i]? = some ys[i] := List.getElem?_eq_getElem hlt2
    refine .inr ⟨⟨xs, ys, _, _, qx, qy, hx, hy⟩, Pv (i + 1), fun H' p' => ⟨xs.length - (i + 1), by omega, rfl, hlt, p'⟩, fun v H' y => ?_⟩
    obtain ⟨T, x', y', rfl, hT, rfl, f1, f2⟩ := y
    exact hs i x' y' T H (f1 xs qx) (f2 ys qy) p hT
  · have e : i = xs.length := by omega
    subst e
    exact .inl ⟨⟨xs, ys, qx, qy, Or.inl (Nat.le_refl _)⟩, hd H p⟩
/-- a row, divided by a number -/
def dv (l : List Int) (c : Int) : List Int := l.map fun x => x.fdiv c
theorem dv_tb (l : List Int) (c : Int) : (tb l.length fun k => (co l k).fdiv c) = dv l c := tb_map (fun x => x.fdiv c) l
def prim (l : List Int) : List Int := if gl l = 0 then l else dv l (if 0 < fo l then (gl l : Int) else -(gl l : Int))
def DivOk (l : List Int) : Prop := gl l ≠ 0 → ∀ x ∈ l, CDivQ x (gl l)
theorem cdivQ_neg {i j : Int} (h : CDivQ i j) : CDivQ i (-j) := ⟨fun e => h.1 (by omega), by rw [Int.natAbs_neg]; exact h.2⟩
theorem co_mem {l : List Int} {k : Nat} (h : k < l.length) : co l k ∈ l := by
  rw [co_get h]
  exact List.getElem_mem h
section
variable {P : Program} {w : World} {K : PySem.W.Frag} {mg : Str → Option Value} {base : Heap} {Ps : List Addr}
def spPrimL (Ps : List Addr) : Sp := fun vs H Q _ => ∃ (t : Addr) (l : List Int), vs = [.ref t] ∧ H t = some (ls l) ∧ l.length ≤ 100 ∧ DivOk l ∧ Tg Ps H ∧ ∀ p H', Sts Ps H H' → Tg Ps H' → H' p = some (ls (prim l)) → Q (.ref p) H'
theorem ok_primitive_of (T : Facts K mg) (TB_first_of : TabB base mg T.c_first_of T.P_first_of) (hP : T.P_first_of ∈ Ps) : FnOk P w K mg base CX0 2 T.f_primitive_of T.fd_primitive_of ["numbers"] (spPrimL Ps) := by
  have G_shared_of : FnOk P w K mg base CX0 1 T.f_shared_of T.fd_shared_of ["numbers"] (spSharedL K) := ok_shared_of T
  have G_first_of := ok_first_of (P := P) (w := w) (base := base) T TB_first_of hP
  refine T.F_primitive_of.ok sc_primitive_of (fun vs H Q E h => ?_) (fun cdv A outer s H vs Q E hr h => ?_)
  · obtain ⟨t, l, rfl, _⟩ := h
    rfl
  · obtain ⟨t, l, rfl, ht, hl, hdo, hG, q⟩ := h
    refine ⟨_, (PSs.nox (pss_cons (ps_set (i := 1) sc_primitive_of.nd rfl (.inr rfl) (pe_call G_shared_of hr (by rfl) T.g_shared_of T.F_shared_of.kp T.b_shared_of .nil pass0 (pa_cons (pv 0) pa_nil)))
    (pss_cons (ps_if (pt_cmpR op_eq (pv 1) pe_int (nomark _))
      (pss_one (ps_ret (pe_callTy call_list_of (by rfl) T.z_list (by decide +kernel) (pa_cons (pv 0) pa_nil))))
      pss_nil)
    (pss_cons (ps_set (i := 1) sc_primitive_of.nd rfl (.inr rfl) (pe_ifExp (pt_cmpR op_gt (pe_call G_first_of hr (by rfl) T.g_first_of T.F_first_of.kp T.b_first_of .nil pass0 (pa_cons (pv 0) pa_nil)) pe_int (nomark _)) (pv 1) (pe_un un_neg (pv 1))))
    (pss_one (ps_ret (pe_lc (own := [("number", 2)]) (g := (gName 2)) (tt := tYes) (by rfl) sc_primitive_of.nd (pi_list (pv 0)) (blkOk_by (N := N_primitive_of) (sc := defScope s_primitive_of) (by decide +kernel)) (fun _ _ _ _ _ => (pg_name (i := 2) sc_primitive_of.nd rfl (.inl rfl))) (fun _ _ _ _ _ => pts_nil) (fun _ _ _ _ _ => (pe_op FDivQ.op_fdivQ (pv 2) (pv 1)))))))))), ?_⟩
    refine ⟨_, rfl, t, l, rfl, SqL.of ht, _, rfl, rfl, _, rfl, ?_⟩
    by_cases c : gl l = 0
    · rw [decide_eq_true (show V.int ((gl l : Nat) : Int) = V.int 0 by rw [c]; rfl)]
      refine iteT ⟨_, rfl, t, l.map V.int, rfl, .inl (SqL.of ht), fun p hp => q p _ (Sts.of (same_upd0 hp)) (hG.same (same_upd0 hp)) ?_⟩
      unfold prim
      rw [if_pos c]
      exact upd_same
    · rw [decide_eq_false fun z => c (Int.natCast_eq_zero.mp (V.int.inj z))]
      refine iteF ⟨_, rfl, t, l, rfl, SqL.of ht, hG, fun H1 s1 g1 => ?_⟩
      have ht1 := s1.lst hG ht
      have fin : ∀ c2 : Int, prim l = dv l c2 → (∀ x ∈ l, CDivQ x c2) → ∀ D, H1 D = none → ∃ W : Nat → Nat → Hp → Prop, (∃ m, W 0 m (upd H1 D (.lst []))) ∧ ∀ i m H, W i m H →
          ((Itl K t).stop i H ∧ Q (.ref D) H) ∨ ((Itl K t).go i H ∧ ∃ Nx : Hp → Prop, (∀ H', Nx H' → ∃ m', m' < m ∧ W (i + 1) m' H') ∧ ∀ x H', (Itl K t).yld i H x H' → gName 2 x (wipe (List.set (L2.start N_primitive_of [V.ref t]) 1 (some (V.int c2))) [2]) H' fun σ2 H2 => wipe σ2 [2] = wipe (List.set (L2.start N_primitive_of [V.ref t]) 1 (some (V.int c2))) [2] ∧ tYes σ2 H2 fun b H3 =>
            if b = true then tOp (rI CDivQ fun i j => V.int (i.fdiv j)) (tVar 2) (tVar 1) σ2 H3 fun y H4 => ∃ acc, H4 D = some (.lst acc) ∧ acc.length < sizeLine ∧ Nx (upd H4 D (.lst (acc ++ [y]))) else Nx H3) := fun c2 e hc D hD => by
        refine lc_list (xs := l.map V.int) (fun j H' => H' = upd H1 D (.lst (tab j fun k => (co l k).fdiv c2))) rfl (fun j H' _ hP => ?_) (fun j x H' hx hP => ?_) (fun H' hP => ?_)
        · rw [hP]
          exact SqL.of (same_upd0 hD _ _ ht1)
        · subst hP
          obtain ⟨hj, rfl⟩ := int_get hx
          refine ⟨rfl, _, rfl, _, rfl, _, _, rfl, rfl, hc _ (co_mem hj), _, upd_same, ?_, ?_⟩
          · rw [tab_len]
            exact small1000 (by omega)
          · rw [upd_upd, ← tab_snoc]
        · subst hP
          rw [List.length_map]
          refine q D _ (s1.trans (Sts.of (same_upd0 hD))) (g1.same (same_upd0 hD)) ?_
          rw [upd_same, tab_tb, dv_tb, e]
      refine ⟨_, _, rfl, rfl, _, rfl, ?_⟩
      by_cases d : 0 < fo l
      · rw [decide_eq_true d]
        refine iteT ⟨_, rfl, _, rfl, t, rfl, ⟨_, SqL.of ht1⟩, fin _ ?_ (hdo c)⟩
        unfold prim
        rw [if_neg c, if_pos d]
      · rw [decide_eq_false d]
        refine iteF ⟨_, rfl, _, rfl, _, rfl, t, rfl, ⟨_, SqL.of ht1⟩, fin _ ?_ fun x hx => cdivQ_neg (hdo c x hx)⟩
        unfold prim
        rw [if_neg c, if_neg d]
def lf (row head : List Int) (p : Nat) : List Int :=
  tb row.length fun k => co row k * (co head p).fdiv (Nat.gcd (co head p).natAbs (co row p).natAbs : Nat) - (co row p).fdiv (Nat.gcd (co head p).natAbs (co row p).natAbs : Nat) * co head k
def less (row head : List Int) (p : Nat) : List Int := if co row p = 0 then row else if 1 < gl (lf row head p) then dv (lf row head p) (gl (lf row head p)) else lf row head p
structure LessOk (row head : List Int) (p : Nat) : Prop where
  c1 : CDivQ (co head p) (Nat.gcd (co head p).natAbs (co row p).natAbs : Nat)
  c2 : CDivQ (co row p) (Nat.gcd (co head p).natAbs (co row p).natAbs : Nat)
  m1 : ∀ k, k < row.length → CMulW (co row k) ((co head p).fdiv (Nat.gcd (co head p).natAbs (co row p).natAbs : Nat))
  m2 : ∀ k, k < row.length → CMulW ((co row p).fdiv (Nat.gcd (co head p).natAbs (co row p).natAbs : Nat)) (co head k)
  d : DivOk (lf row head p)
def spLess : Sp := fun vs H Q _ => ∃ (a b : Addr) (row head : List Int) (p : Nat), vs = [.ref a, .ref b, .int p] ∧ H a = some (ls row) ∧ H b = some (ls head) ∧ row.length = head.length ∧ row.length ≤ 100 ∧ p < row.length ∧ (co row p ≠ 0 → LessOk row head p) ∧ ∀ q H', Same H H' → H' q = some (ls (less row head p)) → Q (.ref q) H'
theorem sz2 : 2 ≤ sizeLine := by decide
theorem ok_less_head (T : Facts K mg) : FnOk P w K mg base CX0 2 T.f_less_head T.fd_less_head ["row", "head", "place"] spLess := by
  have G_shared_of : FnOk P w K mg base CX0 1 T.f_shared_of T.fd_shared_of ["numbers"] (spSharedL K) := ok_shared_of T
  refine T.F_less_head.ok sc_less_head (fun vs H Q E h => ?_) (fun cdv A outer s H vs Q E hr h => ?_)
  · obtain ⟨a, b, row, head, p, rfl, _⟩ := h
    rfl
  · obtain ⟨a, b, row, head, p, rfl, ha, hb, hl, hl1, hp, ok, q⟩ := h
    refine ⟨_, (PSs.nox (pss_cons (ps_asg (pe_tup (pa_cons (pe_ix ix_list (pv 1) (pv 2) (fun _ _ => rfl)) (pa_cons (pe_ix ix_list (pv 0) (pv 2) (fun _ _ => rfl)) pa_nil))) (pg_tup (by rfl) (pgs_cons (pg_name (i := 3) sc_less_head.nd rfl (.inr rfl)) (pgs_cons (pg_name (i := 4) sc_less_head.nd rfl (.inr rfl)) pgs_nil))))
    (pss_cons (ps_if (pt_cmpR op_eq (pv 4) pe_int (nomark _))
      (pss_one (ps_ret (pv 0)))
      pss_nil)
    (pss_cons (ps_set (i := 5) sc_less_head.nd rfl (.inl rfl) (pe_callBfun cr_gcd (by rfl) T.m_gcd (pa_cons (pv 3) (pa_cons (pv 4) pa_nil))))
    (pss_cons (ps_asg (pe_tup (pa_cons (pe_op FDivQ.op_fdivQ (pv 3) (pv 5)) (pa_cons (pe_op FDivQ.op_fdivQ (pv 4) (pv 5)) pa_nil))) (pg_tup (by rfl) (pgs_cons (pg_name (i := 3) sc_less_head.nd rfl (.inr rfl)) (pgs_cons (pg_name (i := 4) sc_less_head.nd rfl (.inr rfl)) pgs_nil))))
    (pss_cons (ps_setLc (i := 6) (own := [("entry", 7), ("taken", 8)]) (g := (gTup K 2 (gCons (gName 7) (gCons (gName 8) gNil)))) (tt := tYes) rfl sc_less_head.nd rfl rfl (sw_true rfl rfl rfl (by decide +kernel)) (pi_zipA (by rfl) T.z_zip (pa_cons (pv 0) (pa_cons (pv 1) pa_nil))) (blkOk_by (N := N_less_head) (sc := defScope s_less_head) (by decide +kernel)) (fun _ _ _ _ _ => (pg_tup (by rfl) (pgs_cons (pg_name (i := 7) sc_less_head.nd rfl (.inl rfl)) (pgs_cons (pg_name (i := 8) sc_less_head.nd rfl (.inl rfl)) pgs_nil)))) (fun _ _ _ _ _ => pts_nil) (fun _ _ _ _ _ => (pe_op op_sub (pe_op op_mulW (pv 7) (pv 3)) (pe_op op_mulW (pv 4) (pv 8)))))
    (pss_cons (ps_set (i := 9) sc_less_head.nd rfl (.inr rfl) (pe_call G_shared_of hr (by rfl) T.g_shared_of T.F_shared_of.kp T.b_shared_of .nil pass0 (pa_cons (pv 6) pa_nil)))
    (pss_one (ps_ret (pe_ifExp (pt_cmpR op_gt (pv 9) pe_int (nomark _)) (pe_lc (own := [("entry", 7)]) (g := (gName 7)) (tt := tYes) (by rfl) sc_less_head.nd (pi_list (pv 6)) (blkOk_by (N := N_less_head) (sc := defScope s_less_head) (by decide +kernel)) (fun _ _ _ _ _ => (pg_name (i := 7) sc_less_head.nd rfl (.inl rfl))) (fun _ _ _ _ _ => pts_nil) (fun _ _ _ _ _ => (pe_op FDivQ.op_fdivQ (pv 7) (pv 9)))) (pv 6))))))))))), ?_⟩
    refine ⟨_, rfl, _, rfl, b, _, p, .int (co head p), rfl, rfl, SqL.of hb, atI_nat (get_int (by omega)), _, rfl, _, rfl, a, _, p, .int (co row p), rfl, rfl, SqL.of ha, atI_nat (get_int hp), sz2, fun t1 n1 => ?_⟩
    refine ⟨t1, _, rfl, SqT.of upd_same, rfl, _, _, rfl, _, _, rfl, rfl, ?_⟩
    have s1 := same_upd0 (o := .tup [.int (co head p), .int (co row p)]) n1
    generalize upd H t1 (.tup [.int (co head p), .int (co row p)]) = H1 at s1 ⊢
    refine ⟨_, rfl, rfl, _, rfl, ?_⟩
    by_cases c : co row p = 0
    · rw [decide_eq_true (show V.int (co row p) = V.int 0 by rw [c])]
      refine iteT ⟨_, rfl, q a H1 s1 ?_⟩
      unfold less
      rw [if_pos c]
      exact s1 _ _ ha
    · rw [decide_eq_false fun z => c (V.int.inj z)]
      have k := ok c
      refine iteF ⟨_, rfl, _, rfl, _, _, rfl, ?_⟩
      refine ⟨_, rfl, _, rfl, _, _, rfl, rfl, k.c1, _, rfl, _, rfl, _, _, rfl, rfl, k.c2, sz2, fun t2 n2 => ?_⟩
      refine ⟨t2, _, rfl, SqT.of upd_same, rfl, _, _, rfl, _, _, rfl, rfl, ?_⟩
      have m1 := k.m1
      have m2 := k.m2
      have dd := k.d
      have el : less row head p = if 1 < gl (lf row head p) then dv (lf row head p) (gl (lf row head p)) else lf row head p := if_neg c
      have ef : lf row head p = tb row.length fun k => co row k * (co head p).fdiv (Nat.gcd (co head p).natAbs (co row p).natAbs : Nat) - (co row p).fdiv (Nat.gcd (co head p).natAbs (co row p).natAbs : Nat) * co head k := rfl
      rw [el] at q
      clear k ok el
      dsimp only []
      generalize lf row head p = f at ef q dd
      generalize (co head p).fdiv (Nat.gcd (co head p).natAbs (co row p).natAbs : Nat) = o1 at m1 ef ⊢
      generalize (co row p).fdiv (Nat.gcd (co head p).natAbs (co row p).natAbs : Nat) = o2 at m2 ef ⊢
      have s2 : Same H (upd H1 t2 (.tup [.int o1, .int o2])) := fun b o e => same_upd0 n2 b o (s1 b o e)
      generalize upd H1 t2 (.tup [.int o1, .int o2]) = H2 at s2 ⊢
      refine ⟨_, rfl, _, rfl, a, b, _, _, rfl, .inl ⟨SqL.of (s2 _ _ ha), SqL.of (s2 _ _ hb), fun D hD => ?_⟩⟩
      refine lc_zipL (xs := row.map V.int) (ys := head.map V.int) (by rw [List.length_map, List.length_map, hl]) (fun j H' => Same H2 H' ∧ H' D = some (.lst (tab j fun k => co row k * o1 - o2 * co head k))) ⟨same_upd0 hD, upd_same⟩ (fun j H' _ hP => ⟨SqL.of (hP.1 _ _ (s2 _ _ ha)), SqL.of (hP.1 _ _ (s2 _ _ hb))⟩) (fun j x y A H' hx hy hP hA => ?_) (fun H' hP => ?_)
      · obtain ⟨sH, hD'⟩ := hP
        obtain ⟨hj, rfl⟩ := int_get hx
        obtain ⟨_, rfl⟩ := int_get hy
        have sA := same_upd0 (o := .tup [.int (co row j), .int (co head j)]) hA
        refine ⟨A, _, rfl, SqT.of upd_same, rfl, _, _, rfl, _, _, rfl, rfl, rfl, _, rfl, _, rfl, _, _, rfl, rfl, m1 j hj, _, rfl, _, rfl, _, _, rfl, rfl, m2 j hj, _, _, rfl, rfl, _, sA _ _ hD', ?_, fun b o e => ?_, ?_⟩
        · rw [tab_len]
          exact small1000 (by omega)
        · rw [upd_ne (ne_of_none e hD)]
          exact sA _ _ (sH _ _ e)
        · rw [upd_same, ← tab_snoc]
      · obtain ⟨s3, hL⟩ := hP
        rw [List.length_map, tab_tb, ← ef] at hL
        have hfl : f.length ≤ 100 := by rw [ef, tb_len]; exact hl1
        have s4 : Same H H' := fun b o e => s3 _ _ (s2 _ _ e)
        refine ⟨_, rfl, D, f, rfl, SqL.of hL, ?_⟩
        refine ⟨_, rfl, _, _, rfl, rfl, _, rfl, ?_⟩
        by_cases d : 1 < gl f
        · rw [decide_eq_true (show (1 : Int) < ((gl f : Nat) : Int) by omega)]
          rw [if_pos d] at q
          refine iteT ⟨_, rfl, D, rfl, ⟨_, SqL.of hL⟩, fun D2 hD2 => ?_⟩
          refine lc_list (xs := f.map V.int) (fun j H3 => H3 = upd H' D2 (.lst (tab j fun k => (co f k).fdiv (gl f)))) rfl (fun j H3 _ hP => ?_) (fun j x H3 hx hP => ?_) (fun H3 hP => ?_)
          · rw [hP]
            exact SqL.of (same_upd0 hD2 _ _ hL)
          · subst hP
            obtain ⟨hj, rfl⟩ := int_get hx
            refine ⟨rfl, _, rfl, _, rfl, _, _, rfl, rfl, dd (by omega) _ (co_mem hj), _, upd_same, ?_, ?_⟩
            · rw [tab_len]
              exact small1000 (by omega)
            · rw [upd_upd, ← tab_snoc]
          · subst hP
            rw [List.length_map]
            refine q D2 _ (fun b o e => same_upd0 hD2 _ _ (s4 _ _ e)) ?_
            rw [upd_same, tab_tb, dv_tb]
        · rw [decide_eq_false (show ¬ (1 : Int) < ((gl f : Nat) : Int) by omega)]
          rw [if_neg d] at q
          exact iteF ⟨_, rfl, q D H' s4 hL⟩
end
end K01

set_option Elab.async false
set_option linter.all false
set_option maxRecDepth 100000
set_option maxHeartbeats 4000000
namespace K01
open PySem PySem.Spec PyProof.Rows L2 StX RZ MyR SlX OwnR OwnF EnumT GxR GenNx FDivQ
section
variable {P : Program} {w : World} {K : PySem.W.Frag} {mg : Str → Option Value} {base : Heap} {Ps : List Addr}
def lless (row head : List Int) (p : Nat) : List Int := if 1 < gl (lf row head p) then dv (lf row head p) (gl (lf row head p)) else lf row head p
def spLLess : Sp := fun vs H Q _ => ∃ (a b : Addr) (row head : List Int) (p : Nat), vs = [.ref a, .ref b, .int p] ∧ H a = some (ls row) ∧ H b = some (ls head) ∧ row.length = head.length ∧ row.length ≤ 100 ∧ p < row.length ∧ LessOk row head p ∧ ∀ q H', Same H H' → H' q = some (ls (lless row head p)) → Q (.ref q) H'
theorem ok_law_less (T : Facts K mg) : FnOk P w K mg base CX0 3 T.f_law_less T.fd_law_less ["_law_row", "_law_head", "_law_place"] spLLess := by
  have G_law_shared : FnOk P w K mg base CX0 2 T.f_law_shared T.fd_law_shared ["_law_numbers"] (spSharedS K) := ok_law_shared T
  have G_law_gcd : FnOk P w K mg base CX0 1 T.f_law_gcd T.fd_law_gcd ["_law_one", "_law_other"] spLGcd := ok_law_gcd T
  refine T.F_law_less.ok sc_law_less (fun vs H Q E h => ?_) (fun cdv A outer s H vs Q E hr h => ?_)
  · obtain ⟨a, b, row, head, p, rfl, _⟩ := h
    rfl
  · obtain ⟨a, b, row, head, p, rfl, ha, hb, hl, hl1, hp, k, q⟩ := h
    refine ⟨_, (PSs.nox (pss_cons (ps_asg (pe_tup (pa_cons (pe_ix ix_list (pv 1) (pv 2) (fun _ _ => rfl)) (pa_cons (pe_ix ix_list (pv 0) (pv 2) (fun _ _ => rfl)) pa_nil))) (pg_tup (by rfl) (pgs_cons (pg_name (i := 3) sc_law_less.nd rfl (.inr rfl)) (pgs_cons (pg_name (i := 4) sc_law_less.nd rfl (.inr rfl)) pgs_nil))))
    (pss_cons (ps_set (i := 5) sc_law_less.nd rfl (.inr rfl) (pe_call G_law_gcd (hr.mono (by decide)) (by rfl) T.g_law_gcd T.F_law_gcd.kp T.b_law_gcd .nil pass0 (pa_cons (pv 3) (pa_cons (pv 4) pa_nil))))
    (pss_cons (ps_setLc (i := 6) (own := [("_law_entry", 7), ("_law_taken", 8)]) (g := (gTup K 2 (gCons (gName 7) (gCons (gName 8) gNil)))) (tt := tYes) rfl sc_law_less.nd rfl rfl (sw_true rfl rfl rfl (by decide +kernel)) (pi_zipA (by rfl) T.z_zip (pa_cons (pv 0) (pa_cons (pv 1) pa_nil))) (blkOk_by (N := N_law_less) (sc := defScope s_law_less) (by decide +kernel)) (fun _ _ _ _ _ => (pg_tup (by rfl) (pgs_cons (pg_name (i := 7) sc_law_less.nd rfl (.inl rfl)) (pgs_cons (pg_name (i := 8) sc_law_less.nd rfl (.inl rfl)) pgs_nil)))) (fun _ _ _ _ _ => pts_nil) (fun _ _ _ _ _ => (pe_op op_sub (pe_op op_mulW (pv 7) (pe_op FDivQ.op_fdivQ (pv 3) (pv 5))) (pe_op op_mulW (pe_op FDivQ.op_fdivQ (pv 4) (pv 5)) (pv 8)))))
    (pss_cons (ps_set (i := 9) sc_law_less.nd rfl (.inr rfl) (pe_call G_law_shared hr (by rfl) T.g_law_shared T.F_law_shared.kp T.b_law_shared .nil pass0 (pa_cons (pv 6) pa_nil)))
    (pss_one (ps_ret (pe_ifExp (pt_cmpR op_gt (pv 9) pe_int (nomark _)) (pe_lc (own := [("_law_entry", 7)]) (g := (gName 7)) (tt := tYes) (by rfl) sc_law_less.nd (pi_list (pv 6)) (blkOk_by (N := N_law_less) (sc := defScope s_law_less) (by decide +kernel)) (fun _ _ _ _ _ => (pg_name (i := 7) sc_law_less.nd rfl (.inl rfl))) (fun _ _ _ _ _ => pts_nil) (fun _ _ _ _ _ => (pe_op FDivQ.op_fdivQ (pv 7) (pv 9)))) (pv 6))))))))), ?_⟩
    refine ⟨_, rfl, _, rfl, b, _, p, .int (co head p), rfl, rfl, SqL.of hb, atI_nat (get_int (by omega)), _, rfl, _, rfl, a, _, p, .int (co row p), rfl, rfl, SqL.of ha, atI_nat (get_int hp), sz2, fun t1 n1 => ?_⟩
    refine ⟨t1, _, rfl, SqT.of upd_same, rfl, _, _, rfl, _, _, rfl, rfl, ?_⟩
    have s2 := same_upd0 (o := .tup [.int (co head p), .int (co row p)]) n1
    generalize upd H t1 (.tup [.int (co head p), .int (co row p)]) = H2 at s2 ⊢
    refine ⟨_, rfl, _, rfl, _, _, rfl, ?_⟩
    have m1 := k.m1
    have m2 := k.m2
    have dd := k.d
    have c1 := k.c1
    have c2 := k.c2
    have el : lless row head p = if 1 < gl (lf row head p) then dv (lf row head p) (gl (lf row head p)) else lf row head p := rfl
    have ef : lf row head p = tb row.length fun k => co row k * (co head p).fdiv (Nat.gcd (co head p).natAbs (co row p).natAbs : Nat) - (co row p).fdiv (Nat.gcd (co head p).natAbs (co row p).natAbs : Nat) * co head k := rfl
    rw [el] at q
    clear k el
    generalize lf row head p = f at ef q dd
    refine ⟨_, rfl, _, rfl, a, b, _, _, rfl, .inl ⟨SqL.of (s2 _ _ ha), SqL.of (s2 _ _ hb), fun D hD => ?_⟩⟩
    refine lc_zipL (xs := row.map V.int) (ys := head.map V.int) (by rw [List.length_map, List.length_map, hl]) (fun j H' => Same H2 H' ∧ H' D = some (.lst (tab j fun k => co row k * (co head p).fdiv (Nat.gcd (co head p).natAbs (co row p).natAbs : Nat) - (co row p).fdiv (Nat.gcd (co head p).natAbs (co row p).natAbs : Nat) * co head k))) ⟨same_upd0 hD, upd_same⟩ (fun j H' _ hP => ⟨SqL.of (hP.1 _ _ (s2 _ _ ha)), SqL.of (hP.1 _ _ (s2 _ _ hb))⟩) (fun j x y A H' hx hy hP hA => ?_) (fun H' hP => ?_)
    · obtain ⟨sH, hD'⟩ := hP
      obtain ⟨hj, rfl⟩ := int_get hx
      obtain ⟨_, rfl⟩ := int_get hy
      have sA := same_upd0 (o := .tup [.int (co row j), .int (co head j)]) hA
      refine ⟨A, _, rfl, SqT.of upd_same, rfl, _, _, rfl, _, _, rfl, rfl, rfl, _, rfl, _, rfl, _, rfl, _, _, rfl, rfl, c1, _, _, rfl, rfl, m1 j hj, _, rfl, _, rfl, _, _, rfl, rfl, c2, _, rfl, _, _, rfl, rfl, m2 j hj, _, _, rfl, rfl, _, sA _ _ hD', ?_, fun b o e => ?_, ?_⟩
      · rw [tab_len]
        exact small1000 (by omega)
      · rw [upd_ne (ne_of_none e hD)]
        exact sA _ _ (sH _ _ e)
      · rw [upd_same, ← tab_snoc]
    · obtain ⟨s3, hL⟩ := hP
      rw [List.length_map, tab_tb, ← ef] at hL
      have hfl : f.length ≤ 100 := by rw [ef, tb_len]; exact hl1
      have s4 : Same H H' := fun b o e => s3 _ _ (s2 _ _ e)
      refine ⟨_, rfl, D, f, rfl, .inr (SqL.of hL), ?_⟩
      refine ⟨_, rfl, _, _, rfl, rfl, _, rfl, ?_⟩
      by_cases d : 1 < gl f
      · rw [decide_eq_true (show (1 : Int) < ((gl f : Nat) : Int) by omega)]
        rw [if_pos d] at q
        refine iteT ⟨_, rfl, D, rfl, ⟨_, SqL.of hL⟩, fun D2 hD2 => ?_⟩
        refine lc_list (xs := f.map V.int) (fun j H3 => H3 = upd H' D2 (.lst (tab j fun k => (co f k).fdiv (gl f)))) rfl (fun j H3 _ hP => ?_) (fun j x H3 hx hP => ?_) (fun H3 hP => ?_)
        · rw [hP]
          exact SqL.of (same_upd0 hD2 _ _ hL)
        · subst hP
          obtain ⟨hj, rfl⟩ := int_get hx
          refine ⟨rfl, _, rfl, _, rfl, _, _, rfl, rfl, dd (by omega) _ (co_mem hj), _, upd_same, ?_, ?_⟩
          · rw [tab_len]
            exact small1000 (by omega)
          · rw [upd_upd, ← tab_snoc]
        · subst hP
          rw [List.length_map]
          refine q D2 _ (fun b o e => same_upd0 hD2 _ _ (s4 _ _ e)) ?_
          rw [upd_same, tab_tb, dv_tb]
      · rw [decide_eq_false (show ¬ (1 : Int) < ((gl f : Nat) : Int) by omega)]
        rw [if_neg d] at q
        exact iteF ⟨_, rfl, q D H' s4 hL⟩
end
end K01

set_option Elab.async false
set_option linter.all false
set_option maxRecDepth 100000
set_option maxHeartbeats 4000000
namespace K01
open PySem PySem.Spec PyProof.Rows L2 StX RZ MyR SlX OwnR OwnF EnumT GxR GenNx FDivQ
theorem gl_all0 : ∀ (l : List Int), (∀ x ∈ l, x = 0) → gl l = 0 := fun l h => by
  unfold gl
  induction l with
  | nil => rfl
  | cons x l ih =>
    rw [List.foldl_cons, h x List.mem_cons_self]
    exact ih fun y hy => h y (List.mem_cons_of_mem _ hy)
theorem fo_filter {l : List Int} (h : gl l ≠ 0) : ∃ r, l.filter (fun x => x != 0) = fo l :: r := by
  cases e : l.filter (fun x => x != 0) with
  | nil =>
    exfalso
    refine h (gl_all0 l fun x hx => ?_)
    have := List.filter_eq_nil_iff.mp e x hx
    simpa using this
  | cons y r =>
    refine ⟨r, ?_⟩
    have q : l.find? (· != 0) = some y := by
      rw [← List.head?_filter, e]
      rfl
    unfold fo
    rw [q]
    rfl
section
variable {P : Program} {w : World} {K : PySem.W.Frag} {mg : Str → Option Value} {base : Heap} {Ps : List Addr}
def spPlain : Sp := fun vs H Q _ => ∃ (t : Addr) (l : List Int), vs = [.ref t] ∧ H t = some (tp l) ∧ l.length ≤ 100 ∧ DivOk l ∧ ∀ p H', Same H H' → H' p = some (tp (prim l)) → Q (.ref p) H'
theorem ok_law_plain (T : Facts K mg) : FnOk P w K mg base CX0 3 T.f_law_plain T.fd_law_plain ["_law_form"] spPlain := by
  have G_law_shared : FnOk P w K mg base CX0 2 T.f_law_shared T.fd_law_shared ["_law_numbers"] (spSharedS K) := ok_law_shared T
  refine T.F_law_plain.ok sc_law_plain (fun vs H Q E h => ?_) (fun cdv A outer s H vs Q E hr h => ?_)
  · obtain ⟨t, ns, rfl, _⟩ := h
    rfl
  · obtain ⟨t, ns, rfl, ht, hl, hdo, q⟩ := h
    refine ⟨_, (PSs.nox (pss_cons (ps_set (i := 1) sc_law_plain.nd rfl (.inr rfl) (pe_call G_law_shared hr (by rfl) T.g_law_shared T.F_law_shared.kp T.b_law_shared .nil pass0 (pa_cons (pv 0) pa_nil)))
    (pss_cons (ps_if (pt_cmpR op_eq (pv 1) pe_int (nomark _))
      (pss_one (ps_ret (pv 0)))
      pss_nil)
    (pss_cons (ps_set (i := 2) sc_law_plain.nd rfl (.inr rfl) (pe_ix ix_list (pe_lc (own := [("_law_entry", 3)]) (g := (gName 3)) (by rfl) sc_law_plain.nd (pi_tup (pv 0)) (blkOk_by (N := N_law_plain) (sc := defScope s_law_plain) (by decide +kernel)) (fun _ _ _ _ _ => (pg_name (i := 3) sc_law_plain.nd rfl (.inl rfl))) (fun _ _ _ _ _ => (pts_one (pt_cmpR op_ne (pv 3) pe_int (nomark _)))) (fun _ _ _ _ _ => (pv 3))) pe_int (fun _ _ => rfl)))
    (pss_one (ps_ret (pe_tupleOf (by rfl) T.z_tuple (pe_lc (own := [("_law_entry", 3)]) (g := (gName 3)) (tt := tYes) (by rfl) sc_law_plain.nd (pi_tup (pv 0)) (blkOk_by (N := N_law_plain) (sc := defScope s_law_plain) (by decide +kernel)) (fun _ _ _ _ _ => (pg_name (i := 3) sc_law_plain.nd rfl (.inl rfl))) (fun _ _ _ _ _ => pts_nil) (fun _ _ _ _ _ => (pe_op FDivQ.op_fdivQ (pv 3) (pe_ifExp (pt_cmpR op_gt (pv 2) pe_int (nomark _)) (pv 1) (pe_op op_sub pe_int (pv 1))))))))))))), ?_⟩
    refine ⟨_, rfl, t, ns, rfl, .inl (SqT.of ht), _, rfl, rfl, _, rfl, ?_⟩
    by_cases c : gl ns = 0
    · rw [decide_eq_true (show V.int ((gl ns : Nat) : Int) = V.int 0 by rw [c]; rfl)]
      refine iteT ⟨_, rfl, q t H (fun _ _ e => e) ?_⟩
      unfold prim
      rw [if_pos c]
      exact ht
    · rw [decide_eq_false fun z => c (Int.natCast_eq_zero.mp (V.int.inj z))]
      obtain ⟨r0, e1⟩ := fo_filter c
      refine iteF ⟨_, rfl, t, rfl, ⟨_, SqT.of ht⟩, fun D hD => lc_tup (xs := ns.map V.int) (fun j H' => Same H H' ∧ H' D = some (.lst (((ns.take j).filter (fun x => x != 0)).map V.int))) ⟨same_upd0 hD, upd_same⟩ (fun j H' _ hP => SqT.of (hP.1 _ _ ht)) (fun j x H' hx hP => ?_) (fun H1 hP => ?_)⟩
      · obtain ⟨sH, hL⟩ := hP
        obtain ⟨hj, rfl⟩ := int_get hx
        refine ⟨rfl, _, rfl, rfl, _, rfl, ?_⟩
        rw [take_snoc hj, List.filter_append]
        by_cases d : co ns j = 0
        · rw [decide_eq_true (show V.int (co ns j) = V.int 0 by rw [d])]
          refine iteF ⟨sH, ?_⟩
          rw [hL, List.filter_cons_of_neg (by rw [d]; decide), List.filter_nil, List.append_nil]
        · rw [decide_eq_false fun z => d (V.int.inj z)]
          refine iteT ⟨_, rfl, _, hL, ?_, fun b o e => ?_, ?_⟩
          · have h1 := List.length_filter_le (fun x => x != 0) (ns.take j)
            rw [List.length_take] at h1
            rw [List.length_map]
            exact small1000 (by omega)
          · rw [upd_ne (ne_of_none e hD)]
            exact sH _ _ e
          · rw [upd_same, List.filter_cons_of_pos (by simpa using d), List.filter_nil, List.map_append]
            rfl
      · obtain ⟨s1, hL⟩ := hP
        rw [List.length_map, List.take_length, e1] at hL
        refine ⟨D, _, _, .int (fo ns), rfl, rfl, SqL.of hL, atI_nat (j := 0) rfl, ?_⟩
        have ht1 := s1 _ _ ht
        have en : prim ns = dv ns (if 0 < fo ns then ((gl ns : Nat) : Int) else 0 - ((gl ns : Nat) : Int)) := by
          unfold prim
          rw [if_neg c, Int.zero_sub]
        refine ⟨_, rfl, t, rfl, ⟨_, SqT.of ht1⟩, fun D2 hD2 => lc_tup (xs := ns.map V.int) (fun j H' => H' = upd H1 D2 (.lst (tab j fun k => (co ns k).fdiv (if 0 < fo ns then ((gl ns : Nat) : Int) else 0 - ((gl ns : Nat) : Int))))) rfl (fun j H' _ hP => ?_) (fun j x H' hx hP => ?_) (fun H' hP => ?_)⟩
        · rw [hP]
          exact SqT.of (same_upd0 hD2 _ _ ht1)
        · subst hP
          obtain ⟨hj, rfl⟩ := int_get hx
          refine ⟨rfl, _, rfl, _, rfl, fo ns, 0, rfl, rfl, _, rfl, ?_⟩
          by_cases d : 0 < fo ns
          · rw [decide_eq_true d]
            refine iteT ⟨_, rfl, _, _, rfl, rfl, hdo c _ (co_mem hj), _, upd_same, ?_, ?_⟩
            · rw [tab_len]
              exact small1000 (by omega)
            · rw [upd_upd, ← tab_snoc, if_pos d]
          · rw [decide_eq_false d]
            refine iteF ⟨_, rfl, _, _, rfl, rfl, _, _, rfl, rfl, by rw [Int.zero_sub]; exact cdivQ_neg (hdo c _ (co_mem hj)), _, upd_same, ?_, ?_⟩
            · rw [tab_len]
              exact small1000 (by omega)
            · rw [upd_upd, ← tab_snoc, if_neg d]
        · subst hP
          rw [List.length_map, tab_tb, dv_tb]
          refine .inl ⟨D2, _, rfl, SqL.of upd_same, fun p hp2 => ?_⟩
          refine q p _ (fun b o e => same_upd0 hp2 _ _ (same_upd0 hD2 _ _ (s1 _ _ e))) ?_
          rw [upd_same, en]
end
end K01

set_option Elab.async false
set_option linter.all false
set_option maxRecDepth 100000
set_option maxHeartbeats 4000000
namespace K01
open PySem PySem.Spec PyProof.Rows L2 StX RZ MyR SlX OwnR OwnF EnumT GxR GenNx FDivQ
/-- a comprehension over enumerate of a list -/
theorem lc_enumL {K : PySem.W.Frag} {a : Addr} {xs : List V} {g : TG} {tt : TT} {te : TE} {vs : List Nat} {σ : L2.St} {H1 : Hp} {D : Addr} {Qd : Hp → Prop} (Pv : Nat → Hp → Prop) (h0 : Pv 0 (upd H1 D (.lst []))) (hq : ∀ i H, i ≤ xs.length → Pv i H → SqL K H a xs)
    (hs : ∀ (i : Nat) (x : V) (T : Addr) (H : Hp), xs[i]? = some x → Pv i H → H T = none → g (.ref T) (wipe σ vs) (upd H T (.tup [.int (i : Nat), x])) fun σ2 H2 => wipe σ2 vs = wipe σ vs ∧ tt σ2 H2 fun b H3 =>
      if b = true then te σ2 H3 fun y H4 => ∃ acc, H4 D = some (.lst acc) ∧ acc.length < sizeLine ∧ Pv (i + 1) (upd H4 D (.lst (acc ++ [y]))) else Pv (i + 1) H3) (hd : ∀ H, Pv xs.length H → Qd H) :
    ∃ W : Nat → Nat → Hp → Prop, (∃ m, W 0 m (upd H1 D (.lst []))) ∧ ∀ i m H, W i m H →
      ((Ite K a).stop i H ∧ Qd H) ∨ ((Ite K a).go i H ∧ ∃ Nx : Hp → Prop, (∀ H', Nx H' → ∃ m', m' < m ∧ W (i + 1) m' H') ∧ ∀ x H', (Ite K a).yld i H x H' → g x (wipe σ vs) H' fun σ2 H2 => wipe σ2 vs = wipe σ vs ∧ tt σ2 H2 fun b H3 =>
        if b = true then te σ2 H3 fun y H4 => ∃ acc, H4 D = some (.lst acc) ∧ acc.length < sizeLine ∧ Nx (upd H4 D (.lst (acc ++ [y]))) else Nx H3) := by
  refine ⟨fun i m H => m = xs.length - i ∧ i ≤ xs.length ∧ Pv i H, ⟨xs.length, by simp, Nat.zero_le _, h0⟩, ?_⟩
  rintro i m H ⟨rfl, hi, p⟩
  have qx := hq i H hi p
  by_cases hlt : i < xs.length
  · have hx : xs[i]? = some xs[i] := List.getElem?_eq_getElem hlt
    refine .inr ⟨⟨xs, _, qx, hx⟩, Pv (i + 1), fun H' p' => ⟨xs.length - (i + 1), by omega, rfl, hlt, p'⟩, fun v H' y => ?_⟩
    obtain ⟨T, x', rfl, hT, rfl, f1⟩ := y
    exact hs i x' T H (f1 xs qx) p hT
  · have e : i = xs.length := by omega
    subst e
    exact .inl ⟨⟨xs, qx, Nat.le_refl _⟩, hd H p⟩
/-- != of two lists of ints -/
theorem ne_lintsL {K : PySem.W.Frag} {H : Hp} {a b : Addr} {xs ys : List Int} {Q : VK} (ha : SqL K H a (xs.map V.int)) (hb : SqL K H b (ys.map V.int)) (q : Q (.bl (!decide (xs = ys))) H) : rNeD K (.ref a) (.ref b) H Q := by
  refine ⟨.list (xs.map PyData.int), .list (ys.map PyData.int), .lst ha (dpAll_ints xs), .lst hb (dpAll_ints ys), shaped_lints xs, shaped_lints ys, ?_⟩
  rw [show PyData.eqv (.list (xs.map PyData.int)) (.list (ys.map PyData.int)) = decide (xs = ys) from eqvAll_ints xs ys]
  exact q
/-- addresses and rows that go together -/
def RX (p : Addr → List Int → Prop) : List Addr → List (List Int) → Prop
  | [], [] => True
  | a :: as, r :: rs => p a r ∧ RX p as rs
  | _, _ => False
theorem RX.len {p : Addr → List Int → Prop} : ∀ {as : List Addr} {rs : List (List Int)}, RX p as rs → as.length = rs.length
  | [], [], _ => rfl
  | a :: as, r :: rs, h => congrArg (· + 1) (RX.len h.2)
theorem RX.imp {p q : Addr → List Int → Prop} (f : ∀ a r, p a r → q a r) : ∀ {as : List Addr} {rs : List (List Int)}, RX p as rs → RX q as rs
  | [], [], _ => True.intro
  | a :: as, r :: rs, h => ⟨f _ _ h.1, RX.imp f h.2⟩
theorem RX.app {p : Addr → List Int → Prop} {bs : List Addr} {ss : List (List Int)} (g : RX p bs ss) : ∀ {as : List Addr} {rs : List (List Int)}, RX p as rs → RX p (as ++ bs) (rs ++ ss)
  | [], [], _ => g
  | a :: as, r :: rs, h => ⟨h.1, RX.app g h.2⟩
theorem RX.get {p : Addr → List Int → Prop} : ∀ {as : List Addr} {rs : List (List Int)} {i : Nat}, RX p as rs → i < rs.length → ∃ a r, as[i]? = some a ∧ rs[i]? = some r ∧ p a r
  | [], [], _, _, h => absurd h (Nat.not_lt_zero _)
  | a :: as, r :: rs, 0, h, _ => ⟨a, r, rfl, rfl, h.1⟩
  | a :: as, r :: rs, i + 1, h, hi => by
    obtain ⟨b, s, e1, e2, k⟩ := RX.get (i := i) h.2 (Nat.lt_of_succ_lt_succ hi)
    exact ⟨b, s, by rw [List.getElem?_cons_succ]; exact e1, by rw [List.getElem?_cons_succ]; exact e2, k⟩
theorem RX.erase {p : Addr → List Int → Prop} : ∀ {as : List Addr} {rs : List (List Int)} (i : Nat), RX p as rs → RX p (as.eraseIdx i) (rs.eraseIdx i)
  | [], [], _, _ => True.intro
  | a :: as, r :: rs, 0, h => h.2
  | a :: as, r :: rs, i + 1, h => ⟨h.1, RX.erase i h.2⟩
theorem RX.snoc {p : Addr → List Int → Prop} {as : List Addr} {rs : List (List Int)} {a : Addr} {r : List Int} (h : RX p as rs) (k : p a r) : RX p (as ++ [a]) (rs ++ [r]) := RX.app (bs := [a]) (ss := [r]) ⟨k, True.intro⟩ h
/-- lists of ints at addresses; lists or tuples -/
def RR (H : Hp) : List Addr → List (List Int) → Prop := RX fun a r => H a = some (ls r)
def RA (H : Hp) : List Addr → List (List Int) → Prop := RX fun a r => H a = some (tp r) ∨ H a = some (ls r)
def RT (H : Hp) : List Addr → List (List Int) → Prop := RX fun a r => H a = some (tp r)
theorem RR.same {H H' : Hp} {as : List Addr} {rs : List (List Int)} (h : RR H as rs) (s : Same H H') : RR H' as rs := RX.imp (fun a r e => s _ _ e) h
theorem RR.sts {Ps : List Addr} {H H' : Hp} {as : List Addr} {rs : List (List Int)} (h : RR H as rs) (s : Sts Ps H H') (g : Tg Ps H) : RR H' as rs := RX.imp (fun a r e => s.lst g e) h
theorem RA.same {H H' : Hp} {as : List Addr} {rs : List (List Int)} (h : RA H as rs) (s : Same H H') : RA H' as rs := RX.imp (fun a r e => e.imp (s _ _) (s _ _)) h
theorem RX.impM {p q : Addr → List Int → Prop} : ∀ {as : List Addr} {rs : List (List Int)}, (∀ a ∈ as, ∀ r, p a r → q a r) → RX p as rs → RX q as rs
  | [], [], _, _ => True.intro
  | a :: as, r :: rs, f, h => ⟨f a List.mem_cons_self r h.1, RX.impM (fun b hb => f b (List.mem_cons_of_mem _ hb)) h.2⟩
/-- a row of ints is no list of rows -/
theorem row_ne {H : Hp} {b D : Addr} {r : List Int} {xs : List Addr} (h : H b = some (ls r)) (hD : H D = some (.lst (xs.map V.ref))) (hx : xs ≠ []) : b ≠ D := fun e => by
  rw [e, hD] at h
  have h := HO.lst.inj (Option.some.inj h)
  cases xs with
  | nil => exact hx rfl
  | cons x xs =>
    cases r with
    | nil => cases h
    | cons y r => cases h
theorem row_ne2 {H : Hp} {b D : Addr} {r : List Int} {xs : List Addr} (h : H b = some (ls r)) (hD : H D = some (.lst (xs.map V.ref))) (hr : r ≠ []) : b ≠ D := fun e => by
  rw [e, hD] at h
  have h := HO.lst.inj (Option.some.inj h)
  cases r with
  | nil => exact hr rfl
  | cons y r =>
    cases xs with
    | nil => cases h
    | cons x xs => cases h
theorem RR.upd {H : Hp} {D : Addr} {o : HO} {xs as : List Addr} {rs : List (List Int)} (h : RR H as rs) (hD : H D = some (.lst (xs.map V.ref))) (hx : as ≠ [] → xs ≠ []) : RR (L2.upd H D o) as rs :=
  RX.impM (fun a ha r e => by rw [upd_ne (row_ne e hD (hx fun z => by rw [z] at ha; cases ha))]; exact e) h
/-- one place of the echelon; le takes the head off a row -/
def hix (left : List (List Int)) (p : Nat) : Option Nat := left.findIdx? fun r => co r p != 0
/-- the places of the heads -/
def hds (left : List (List Int)) (p : Nat) : List Int := ((List.range left.length).filter fun i => co (left.getD i []) p != 0).map fun (i : Nat) => (i : Int)
theorem hds_hix (left : List (List Int)) (p : Nat) : (hds left p)[0]? = (hix left p).map fun (i : Nat) => (i : Int) := by
  unfold hds hix
  rw [List.getElem?_map, ← List.head?_eq_getElem?, List.head?_filter]
  congr 1
  cases e : List.findIdx? (fun r => co r p != 0) left with
  | none =>
    rw [List.find?_eq_none]
    intro i hi
    have hi : i < left.length := List.mem_range.mp hi
    have h := List.findIdx?_eq_none_iff.mp e left[i] (List.getElem_mem hi)
    rw [List.getD_eq_getElem?_getD, List.getElem?_eq_getElem hi]
    show ¬ (co left[i] p != 0) = true
    rw [h]
    exact Bool.false_ne_true
  | some k =>
    obtain ⟨hk, h1, h2⟩ := List.findIdx?_eq_some_iff_getElem.mp e
    refine List.find?_eq_some_iff_getElem.mpr ⟨?_, k, by rw [List.length_range]; exact hk, List.getElem_range _, fun j hj => ?_⟩
    · rw [List.getD_eq_getElem?_getD, List.getElem?_eq_getElem hk]
      exact h1
    · rw [List.getElem_range, List.getD_eq_getElem?_getD, List.getElem?_eq_getElem (Nat.lt_trans hj hk)]
      have := h2 j hj
      simpa using this
def stp (le : List Int → List Int → Nat → List Int) (p : Nat) (s : List (List Int) × List (List Int)) : List (List Int) × List (List Int) := match hix s.1 p with
  | none => s
  | some h => ((s.1.eraseIdx h).map fun r => le r (s.1.getD h []) p, (s.2.map fun r => le r (s.1.getD h []) p) ++ [s.1.getD h []])
def eS (le : List Int → List Int → Nat → List Int) (rows : List (List Int)) : Nat → List (List Int) × List (List Int)
  | 0 => (rows, [])
  | p + 1 => stp le p (eS le rows p)
def ech (le : List Int → List Int → Nat → List Int) (rows : List (List Int)) (w : Nat) : List (List Int) := (eS le rows w).2.map prim
structure EOk (le : List Int → List Int → Nat → List Int) (rows : List (List Int)) (w : Nat) : Prop where
  d : ∀ r ∈ (eS le rows w).2, DivOk r
  l : ∀ p, p < w → ∀ h, hix (eS le rows p).1 p = some h → ∀ r, (r ∈ (eS le rows p).1.eraseIdx h ∨ r ∈ (eS le rows p).2) → LessOk r ((eS le rows p).1.getD h []) p
/-- a comprehension over a list of rows that makes a row of each -/
theorem lc_rows {K : PySem.W.Frag} {a : Addr} {fs : List Addr} {R : List (List Int)} {f : List Int → List Int} {te : TE} {σ : L2.St} {k : Nat} {H1 : Hp} {D : Addr} {Qd : Hp → Prop} (hD : H1 D = none) (ha : H1 a = some (.lst (fs.map V.ref))) (hR : RR H1 fs R) (hl : R.length ≤ 100)
    (hw : ∀ x, wipe ((wipe σ [k]).set k (some x)) [k] = wipe σ [k])
    (hte : ∀ (ad : Addr) (r : List Int) (H2 : Hp) (Q : VK), r ∈ R → Same H1 H2 → H2 ad = some (ls r) → (∀ q H3, Same H2 H3 → H3 q = some (ls (f r)) → Q (.ref q) H3) → te ((wipe σ [k]).set k (some (.ref ad))) H2 Q)
    (hf : ∀ r ∈ R, f r ≠ []) (hd : ∀ bs H6, Same H1 H6 → H6 D = some (.lst (bs.map V.ref)) → RR H6 bs (R.map f) → Qd H6) :
    ∃ W : Nat → Nat → Hp → Prop, (∃ m, W 0 m (upd H1 D (.lst []))) ∧ ∀ i m H, W i m H →
      ((Itl K a).stop i H ∧ Qd H) ∨ ((Itl K a).go i H ∧ ∃ Nx : Hp → Prop, (∀ H', Nx H' → ∃ m', m' < m ∧ W (i + 1) m' H') ∧ ∀ x H', (Itl K a).yld i H x H' → gName k x (wipe σ [k]) H' fun σ2 H2 => wipe σ2 [k] = wipe σ [k] ∧ tYes σ2 H2 fun b H3 =>
        if b = true then te σ2 H3 fun y H4 => ∃ acc, H4 D = some (.lst acc) ∧ acc.length < sizeLine ∧ Nx (upd H4 D (.lst (acc ++ [y]))) else Nx H3) := by
  refine lc_list (xs := fs.map V.ref) (fun j H' => ∃ bs, Same H1 H' ∧ H' D = some (.lst (bs.map V.ref)) ∧ bs.length = j ∧ RR H' bs ((R.take j).map f)) ⟨[], same_upd0 hD, upd_same, rfl, True.intro⟩ (fun j H' _ hP => SqL.of (hP.choose_spec.1 _ _ ha)) (fun j x H' hx hP => ?_) (fun H' hP => ?_)
  · obtain ⟨bs, s1, h1, h2, h3⟩ := hP
    rw [List.getElem?_map] at hx
    obtain ⟨ad, had, rfl⟩ := Option.map_eq_some_iff.mp hx
    obtain ⟨ad', r, e1, e2, e3⟩ := RX.get hR (by rw [← hR.len]; exact (List.getElem?_eq_some_iff.mp had).1)
    rw [had] at e1
    cases e1
    have hj : j < R.length := (List.getElem?_eq_some_iff.mp e2).1
    refine ⟨hw _, ?_⟩
    show te _ _ _
    refine hte ad r H' _ (List.mem_of_getElem? e2) s1 (s1 _ _ e3) fun q H3 s3 e4 => ⟨bs.map V.ref, s3 _ _ h1, ?_, bs ++ [q], fun b o e => ?_, ?_, ?_, ?_⟩
    · rw [List.length_map, h2]
      exact small1000 (by omega)
    · rw [upd_ne (ne_of_none e hD)]
      exact s3 _ _ (s1 _ _ e)
    · rw [upd_same, List.map_append]
      rfl
    · rw [List.length_append, h2]
      rfl
    · rw [List.take_add_one, e2, List.map_append]
      refine RX.snoc (RR.upd (h3.same s3) (s3 _ _ h1) fun z => z) ?_
      show upd H3 D _ q = _
      by_cases hq : q = D
      · exact absurd hq (row_ne2 e4 (s3 _ _ h1) (hf r (List.mem_of_getElem? e2)))
      · rw [upd_ne hq]
        exact e4
  · obtain ⟨bs, s1, h1, h2, h3⟩ := hP
    rw [List.length_map, hR.len, List.take_length] at h3
    exact hd bs H' s1 h1 h3
/-- a comprehension over a list of rows that makes a row of each -/
theorem lc_rowsS {Ps : List Addr} {K : PySem.W.Frag} {a : Addr} {fs : List Addr} {R : List (List Int)} {f : List Int → List Int} {te : TE} {σ : L2.St} {k : Nat} {H1 : Hp} {D : Addr} {Qd : Hp → Prop} (hG : Tg Ps H1) (hD : H1 D = none) (ha : H1 a = some (.lst (fs.map V.ref))) (hR : RR H1 fs R) (hl : R.length ≤ 100)
    (hw : ∀ x, wipe ((wipe σ [k]).set k (some x)) [k] = wipe σ [k])
    (hte : ∀ (ad : Addr) (r : List Int) (H2 : Hp) (Q : VK), r ∈ R → Sts Ps H1 H2 → Tg Ps H2 → H2 ad = some (ls r) → (∀ q H3, Sts Ps H2 H3 → Tg Ps H3 → H3 q = some (ls (f r)) → Q (.ref q) H3) → te ((wipe σ [k]).set k (some (.ref ad))) H2 Q)
    (hf : ∀ r ∈ R, f r ≠ []) (hd : ∀ bs H6, Sts Ps H1 H6 → Tg Ps H6 → H6 D = some (.lst (bs.map V.ref)) → RR H6 bs (R.map f) → Qd H6) :
    ∃ W : Nat → Nat → Hp → Prop, (∃ m, W 0 m (upd H1 D (.lst []))) ∧ ∀ i m H, W i m H →
      ((Itl K a).stop i H ∧ Qd H) ∨ ((Itl K a).go i H ∧ ∃ Nx : Hp → Prop, (∀ H', Nx H' → ∃ m', m' < m ∧ W (i + 1) m' H') ∧ ∀ x H', (Itl K a).yld i H x H' → gName k x (wipe σ [k]) H' fun σ2 H2 => wipe σ2 [k] = wipe σ [k] ∧ tYes σ2 H2 fun b H3 =>
        if b = true then te σ2 H3 fun y H4 => ∃ acc, H4 D = some (.lst acc) ∧ acc.length < sizeLine ∧ Nx (upd H4 D (.lst (acc ++ [y]))) else Nx H3) := by
  refine lc_list (xs := fs.map V.ref) (fun j H' => ∃ bs, Sts Ps H1 H' ∧ Tg Ps H' ∧ H' D = some (.lst (bs.map V.ref)) ∧ bs.length = j ∧ RR H' bs ((R.take j).map f)) ⟨[], Sts.of (same_upd0 hD), hG.same (same_upd0 hD), upd_same, rfl, True.intro⟩ (fun j H' _ hP => SqL.of (hP.choose_spec.1.lst hG ha)) (fun j x H' hx hP => ?_) (fun H' hP => ?_)
  · obtain ⟨bs, s1, t1, h1, h2, h3⟩ := hP
    rw [List.getElem?_map] at hx
    obtain ⟨ad, had, rfl⟩ := Option.map_eq_some_iff.mp hx
    obtain ⟨ad', r, e1, e2, e3⟩ := RX.get hR (by rw [← hR.len]; exact (List.getElem?_eq_some_iff.mp had).1)
    rw [had] at e1
    cases e1
    have hj : j < R.length := (List.getElem?_eq_some_iff.mp e2).1
    refine ⟨hw _, ?_⟩
    show te _ _ _
    refine hte ad r H' _ (List.mem_of_getElem? e2) s1 t1 (s1.lst hG e3) fun q H3 s3 t3 e4 => ⟨bs.map V.ref, s3.lst t1 h1, ?_, bs ++ [q], fun b o nb e => ?_, ?_, ?_, ?_, ?_⟩
    · rw [List.length_map, h2]
      exact small1000 (by omega)
    · rw [upd_ne (ne_of_none e hD)]
      exact s3 _ _ nb (s1 _ _ nb e)
    · intro P m
      obtain ⟨ps, e, k2⟩ := t3 P m
      refine ⟨ps, ?_, k2⟩
      rw [upd_ne (fun z => by
        have h5 := s3.lst t1 h1
        rw [← z, e] at h5
        cases h5)]
      exact e
    · rw [upd_same, List.map_append]
      rfl
    · rw [List.length_append, h2]
      rfl
    · rw [List.take_add_one, e2, List.map_append]
      refine RX.snoc (RR.upd (h3.sts s3 t1) (s3.lst t1 h1) fun z => z) ?_
      show upd H3 D _ q = _
      by_cases hq : q = D
      · exact absurd hq (row_ne2 e4 (s3.lst t1 h1) (hf r (List.mem_of_getElem? e2)))
      · rw [upd_ne hq]
        exact e4
  · obtain ⟨bs, s1, t1, h1, h2, h3⟩ := hP
    rw [List.length_map, hR.len, List.take_length] at h3
    exact hd bs H' s1 t1 h1 h3
theorem prim_len (l : List Int) : (prim l).length = l.length := by
  unfold prim dv
  split
  · rfl
  · rw [List.length_map]
theorem erase_map : ∀ (l : List Addr) (h : Nat), (l.map V.ref).eraseIdx h = (l.eraseIdx h).map V.ref
  | [], _ => rfl
  | a :: l, 0 => rfl
  | a :: l, h + 1 => by
    show V.ref a :: (l.map V.ref).eraseIdx h = V.ref a :: (l.eraseIdx h).map V.ref
    rw [erase_map l h]
theorem less_len (row head : List Int) (p : Nat) : (less row head p).length = row.length := by
  unfold less dv lf
  split
  · rfl
  · split
    · rw [List.length_map, tb_len]
    · rw [tb_len]
theorem stp_none {le : List Int → List Int → Nat → List Int} {p : Nat} {s : List (List Int) × List (List Int)} (h : hix s.1 p = none) : stp le p s = s := by
  unfold stp
  rw [h]
theorem stp_some {le : List Int → List Int → Nat → List Int} {p h : Nat} {s : List (List Int) × List (List Int)} (e : hix s.1 p = some h) : stp le p s = ((s.1.eraseIdx h).map fun r => le r (s.1.getD h []) p, (s.2.map fun r => le r (s.1.getD h []) p) ++ [s.1.getD h []]) := by
  unfold stp
  rw [e]
theorem eS_len {rows : List (List Int)} {n : Nat} (h : ∀ r ∈ rows, r.length = n) : ∀ p, (∀ r ∈ (eS less rows p).1, r.length = n) ∧ ∀ r ∈ (eS less rows p).2, r.length = n
  | 0 => ⟨h, fun r hr => absurd hr List.not_mem_nil⟩
  | p + 1 => by
    obtain ⟨h1, h2⟩ := eS_len h p
    show (∀ r ∈ (stp less p (eS less rows p)).1, r.length = n) ∧ ∀ r ∈ (stp less p (eS less rows p)).2, r.length = n
    cases e : hix (eS less rows p).1 p with
    | none =>
      rw [stp_none e]
      exact ⟨h1, h2⟩
    | some k =>
      rw [stp_some e]
      refine ⟨fun r hr => ?_, fun r hr => ?_⟩
      · obtain ⟨x, hx, rfl⟩ := List.mem_map.mp hr
        rw [less_len]
        exact h1 x (List.mem_of_mem_eraseIdx hx)
      · rcases List.mem_append.mp hr with hr | hr
        · obtain ⟨x, hx, rfl⟩ := List.mem_map.mp hr
          rw [less_len]
          exact h2 x hx
        · rw [List.mem_singleton.mp hr]
          obtain ⟨hk, _, _⟩ := List.findIdx?_eq_some_iff_getElem.mp e
          rw [List.getD_eq_getElem?_getD, List.getElem?_eq_getElem hk]
          exact h1 _ (List.getElem_mem hk)
theorem eS_cnt (le : List Int → List Int → Nat → List Int) (rows : List (List Int)) : ∀ p, (eS le rows p).1.length + (eS le rows p).2.length = rows.length
  | 0 => rfl
  | p + 1 => by
    have ih := eS_cnt le rows p
    show (stp le p (eS le rows p)).1.length + (stp le p (eS le rows p)).2.length = _
    cases e : hix (eS le rows p).1 p with
    | none => rw [stp_none e]; exact ih
    | some k =>
      obtain ⟨hk, _, _⟩ := List.findIdx?_eq_some_iff_getElem.mp e
      rw [stp_some e]
      show ((eS le rows p).1.eraseIdx k |>.map _).length + (_ ++ [_]).length = _
      rw [List.length_map, List.length_eraseIdx_of_lt hk, List.length_append, List.length_map]
      show _ - 1 + (_ + 1) = _
      omega
section
variable {P : Program} {w : World} {K : PySem.W.Frag} {mg : Str → Option Value} {base : Heap} {Ps : List Addr}
def spEch (K : PySem.W.Frag) (Ps : List Addr) : Sp := fun vs H Q _ => ∃ (t : Addr) (as : List Addr) (rows : List (List Int)) (n : Nat), vs = [.ref t, .int n] ∧ (H t = some (.tup (as.map V.ref)) ∨ H t = some (.lst (as.map V.ref))) ∧ RA H as rows ∧ rows.length ≤ 100 ∧ n ≤ 100 ∧ (∀ r ∈ rows, r.length = n) ∧
  EOk less rows n ∧ Tg Ps H ∧ ∀ p bs H', Sts Ps H H' → Tg Ps H' → H' p = some (.lst (bs.map V.ref)) → RR H' bs (ech less rows n) → Q (.ref p) H'
theorem ok_echelon_rows (T : Facts K mg) (TB_first_of : TabB base mg T.c_first_of T.P_first_of) (hP : T.P_first_of ∈ Ps) : FnOk P w K mg base CX0 3 T.f_echelon_rows T.fd_echelon_rows ["rows", "width"] (spEch K Ps) := by
  have G_less_head : FnOk P w K mg base CX0 2 T.f_less_head T.fd_less_head ["row", "head", "place"] spLess := ok_less_head T
  have G_primitive_of := ok_primitive_of (P := P) (w := w) (base := base) T TB_first_of hP
  refine T.F_echelon_rows.ok sc_echelon_rows (fun vs H Q E h => ?_) (fun cdv A outer s H vs Q E hr h => ?_)
  · obtain ⟨t, as, rows, n, rfl, _⟩ := h
    rfl
  · obtain ⟨t, as, rows, n, rfl, hS, hA, hl, hn, hw, ok, hG, q⟩ := h
    refine ⟨_, (PSs.nox (pss_cons (ps_par (i := 2) (j := 3) (by rfl) sc_echelon_rows.nd rfl rfl (by decide) rfl rfl (pa_cons (pe_lc (own := [("row", 4)]) (g := (gName 4)) (tt := tYes) (by rfl) sc_echelon_rows.nd (SeqE.PI_or (pi_tup (pv 0)) (pi_list (pv 0))) (blkOk_by (N := N_echelon_rows) (sc := defScope s_echelon_rows) (by decide +kernel)) (fun _ _ _ _ _ => (pg_name (i := 4) sc_echelon_rows.nd rfl (.inl rfl))) (fun _ _ _ _ _ => pts_nil) (fun _ _ _ _ _ => (pe_callTy (ListOf.call_list_ofK (by rfl) : CallR _ (.type "list") (ListOf.rListOf K)) (by rfl) T.z_list (by decide +kernel) (pa_cons (pv 4) pa_nil)))) (pa_cons (pe_lst pa_nil) pa_nil)) (by rfl))
    (pss_cons (ps_for PassesOwn.never (by rfl) (pi_range1 (by rfl) T.z_range (pa_cons (pv 1) pa_nil)) (pg_name (i := 5) sc_echelon_rows.nd rfl (.inr rfl))
      (pss_cons (ps_setLc (i := 6) (own := [("row", 4), ("at", 7)]) (g := (gTup K 2 (gCons (gName 7) (gCons (gName 4) gNil)))) rfl sc_echelon_rows.nd rfl rfl (sw_true rfl rfl rfl (by decide +kernel)) (pi_enum (by rfl) T.z_enumerate (pa_cons (pv 2) pa_nil)) (blkOk_by (N := N_echelon_rows) (sc := defScope s_echelon_rows) (by decide +kernel)) (fun _ _ _ _ _ => (pg_tup (by rfl) (pgs_cons (pg_name (i := 7) sc_echelon_rows.nd rfl (.inl rfl)) (pgs_cons (pg_name (i := 4) sc_echelon_rows.nd rfl (.inl rfl)) pgs_nil)))) (fun _ _ _ _ _ => (pts_one (pt_cmpR op_ne (pe_ix (ix_list : IxR _ (rIxL K)) (pv 4) (pv 5) (fun _ _ => rfl)) pe_int (nomark _)))) (fun _ _ _ _ _ => (pv 7)))
      (pss_one (ps_if (pt_cmpR (op_neD (hu64 hr)) (pv 6) (pe_lst pa_nil) (nomark _))
        (pss_cons (ps_set (i := 8) sc_echelon_rows.nd rfl (.inr rfl) (pe_bm PySem.F.plainAttrs_list PySem.F.slot_list_pop PySem.F.type_list_pop mt_popAt (pv 2) (pa_cons (pe_ix ix_list (pv 6) pe_int (fun _ _ => rfl)) pa_nil)))
        (pss_cons (ps_set (i := 3) sc_echelon_rows.nd rfl (.inl rfl) (pe_lst (pa_star (pe_lc (own := [("row", 4)]) (g := (gName 4)) (tt := tYes) (by rfl) sc_echelon_rows.nd (pi_list (pv 3)) (blkOk_by (N := N_echelon_rows) (sc := defScope s_echelon_rows) (by decide +kernel)) (fun _ _ _ _ _ => (pg_name (i := 4) sc_echelon_rows.nd rfl (.inl rfl))) (fun _ _ _ _ _ => pts_nil) (fun _ _ _ _ _ => (pe_call G_less_head hr (by rfl) T.g_less_head T.F_less_head.kp T.b_less_head .nil pass0 (pa_cons (pv 4) (pa_cons (pv 8) (pa_cons (pv 5) pa_nil)))))) (pa_cons (pv 8) pa_nil))))
        (pss_one (ps_setLc (i := 2) (own := [("row", 4)]) (g := (gName 4)) (tt := tYes) rfl sc_echelon_rows.nd rfl rfl (sw_true rfl rfl rfl (by decide +kernel)) (pi_list (pv 2)) (blkOk_by (N := N_echelon_rows) (sc := defScope s_echelon_rows) (by decide +kernel)) (fun _ _ _ _ _ => (pg_name (i := 4) sc_echelon_rows.nd rfl (.inl rfl))) (fun _ _ _ _ _ => pts_nil) (fun _ _ _ _ _ => (pe_call G_less_head hr (by rfl) T.g_less_head T.F_less_head.kp T.b_less_head .nil pass0 (pa_cons (pv 4) (pa_cons (pv 8) (pa_cons (pv 5) pa_nil)))))))))
        pss_nil))))
    (pss_one (ps_ret (pe_lc (own := [("row", 4)]) (g := (gName 4)) (tt := tYes) (by rfl) sc_echelon_rows.nd (pi_list (pv 3)) (blkOk_by (N := N_echelon_rows) (sc := defScope s_echelon_rows) (by decide +kernel)) (fun _ _ _ _ _ => (pg_name (i := 4) sc_echelon_rows.nd rfl (.inl rfl))) (fun _ _ _ _ _ => pts_nil) (fun _ _ _ _ _ => (pe_call G_primitive_of hr (by rfl) T.g_primitive_of T.F_primitive_of.kp T.b_primitive_of .nil pass0 (pa_cons (pv 4) pa_nil))))))))), ?_⟩
    have step : ∀ (i : Nat) (x : V) (D : Addr) (H' : Hp), H D = none → (as.map V.ref)[i]? = some x → (∃ bs, Same H H' ∧ H' D = some (.lst (bs.map V.ref)) ∧ bs.length = i ∧ RR H' bs (rows.take i)) →
        ∃ a r, x = .ref a ∧ (H' a = some (ls r) ∨ H' a = some (tp r)) ∧ ∀ l, H' l = none → ∃ acc, (upd H' l (ls r)) D = some (.lst acc) ∧ acc.length < sizeLine ∧ ∃ bs, Same H (upd (upd H' l (ls r)) D (.lst (acc ++ [.ref l]))) ∧ (upd (upd H' l (ls r)) D (.lst (acc ++ [.ref l]))) D = some (.lst (bs.map V.ref)) ∧ bs.length = i + 1 ∧ RR (upd (upd H' l (ls r)) D (.lst (acc ++ [.ref l]))) bs (rows.take (i + 1)) := fun i x D H' hD hx hP => by
      obtain ⟨bs, s1, h1, h2, h3⟩ := hP
      rw [List.getElem?_map] at hx
      obtain ⟨a, ha, rfl⟩ := Option.map_eq_some_iff.mp hx
      have hi : i < rows.length := by
        rw [← hA.len]
        exact (List.getElem?_eq_some_iff.mp ha).1
      obtain ⟨a', r, e1, e2, k⟩ := RX.get hA hi
      rw [ha] at e1
      cases e1
      refine ⟨a, r, rfl, k.symm.imp (s1 _ _) (s1 _ _), fun l hl => ⟨bs.map V.ref, ?_, ?_, bs ++ [l], ?_, ?_, ?_, ?_⟩⟩
      · exact same_upd0 hl _ _ h1
      · rw [List.length_map, h2]
        exact small1000 (by omega)
      · intro b o e
        rw [upd_ne (ne_of_none e hD)]
        exact same_upd0 hl _ _ (s1 _ _ e)
      · rw [upd_same, List.map_append]
        rfl
      · rw [List.length_append, h2]
        rfl
      · have lD : l ≠ D := fun e => by
          rw [e, h1] at hl
          cases hl
        have hr2 : RR (upd H' l (ls r)) bs (rows.take i) := h3.same (same_upd0 hl)
        have et : rows.take (i + 1) = rows.take i ++ [r] := by
          rw [List.take_add_one, e2]
          rfl
        rw [et]
        refine RX.snoc (RR.upd hr2 (same_upd0 hl _ _ h1) fun z => z) ?_
        show upd (upd H' l (ls r)) D _ l = _
        rw [upd_ne lD]
        exact upd_same
    rcases hS with hS | hS
    case' inl =>
      refine .inl ⟨_, rfl, t, rfl, ⟨_, SqT.of hS⟩, fun D hD => ?_⟩
      refine lc_tup (xs := as.map V.ref) (fun j H' => ∃ bs, Same H H' ∧ H' D = some (.lst (bs.map V.ref)) ∧ bs.length = j ∧ RR H' bs (rows.take j)) ⟨[], same_upd0 hD, upd_same, rfl, True.intro⟩ (fun j H' _ hP => SqT.of (hP.choose_spec.1 _ _ hS)) (fun j x H' hx hP => by
        obtain ⟨a, r, rfl, k, f⟩ := step j x D H' hD hx hP
        exact ⟨rfl, _, rfl, a, r.map V.int, rfl, k.imp SqL.of SqT.of, fun l hl => f l hl⟩) (fun H1 hP => ?_)
    case' inr =>
      refine .inr ⟨_, rfl, t, rfl, ⟨_, SqL.of hS⟩, fun D hD => ?_⟩
      refine lc_list (xs := as.map V.ref) (fun j H' => ∃ bs, Same H H' ∧ H' D = some (.lst (bs.map V.ref)) ∧ bs.length = j ∧ RR H' bs (rows.take j)) ⟨[], same_upd0 hD, upd_same, rfl, True.intro⟩ (fun j H' _ hP => SqL.of (hP.choose_spec.1 _ _ hS)) (fun j x H' hx hP => by
        obtain ⟨a, r, rfl, k, f⟩ := step j x D H' hD hx hP
        exact ⟨rfl, _, rfl, a, r.map V.int, rfl, k.imp SqL.of SqT.of, fun l hl => f l hl⟩) (fun H1 hP => ?_)
    all_goals
      clear step
      obtain ⟨bs, s1, h1, h2, h3⟩ := hP
      rw [show rows.take ((as.map V.ref).length) = rows by rw [List.length_map, hA.len, List.take_length]] at h3
      have hbl := h3.len
      dsimp only [tCons, tLst, tNil]
      refine ⟨by decide, fun F hF => ⟨_, _, rfl, ?_⟩⟩
      have s2 : Same H (upd H1 F (.lst [])) := fun b o e => same_upd0 hF _ _ (s1 _ _ e)
      refine ⟨_, rfl, _, rfl, by omega, by omega, for_range (n := n) (fun i σ H' => ∃ L F ls' fs y4 y5 y6 y7 y8, σ = [some (.ref t), some (.int n), some (.ref L), some (.ref F), y4, y5, y6, y7, y8] ∧ Same H H' ∧ H L = none ∧ L ≠ F ∧ H' L = some (.lst (ls'.map V.ref)) ∧ H' F = some (.lst (fs.map V.ref)) ∧ RR H' ls' (eS less rows i).1 ∧ RR H' fs (eS less rows i).2) ⟨D, F, bs, [], none, none, none, none, none, rfl, s2, hD, (fun e => by rw [e, hF] at h1; cases h1), same_upd0 hF _ _ h1, upd_same, h3.same (same_upd0 hF), True.intro⟩ (fun i σ H' hi hP => ?_) (fun σ H' hP => ?_)⟩
      · obtain ⟨L, F, ls', fs, y4, y5, y6, y7, y8, rfl, sH, nL, nLF, eL, eF, rL, rF⟩ := hP
        rw [Int.zero_add]
        refine ⟨_, rfl, L, _, rfl, SqL.of eL, fun D2 hD2 => ?_⟩
        refine lc_enumL (xs := ls'.map V.ref) (fun j H3 => Same H' H3 ∧ H3 D2 = some (.lst ((((List.range j).filter fun k => co ((eS less rows i).1.getD k []) i != 0).map fun (k : Nat) => (k : Int)).map V.int))) ⟨same_upd0 hD2, upd_same⟩ (fun j H3 _ hP => SqL.of (hP.1 _ _ eL)) (fun j x A H3 hx hP hA => ?_) (fun H3 hP => ?_)
        · obtain ⟨s3, hL⟩ := hP
          rw [List.getElem?_map] at hx
          obtain ⟨a, ha, rfl⟩ := Option.map_eq_some_iff.mp hx
          obtain ⟨a', r, e1, e2, k⟩ := RX.get rL (by rw [← rL.len]; exact (List.getElem?_eq_some_iff.mp ha).1)
          rw [ha] at e1
          cases e1
          have eg : (eS less rows i).1.getD j [] = r := by rw [List.getD_eq_getElem?_getD, e2]; rfl
          have sA := same_upd0 (o := .tup [.int (j : Nat), .ref a]) hA
          have hri : i < r.length := by rw [(eS_len hw i).1 r (List.mem_of_getElem? e2)]; exact hi
          refine ⟨A, _, rfl, SqT.of upd_same, rfl, _, _, rfl, _, _, rfl, rfl, rfl, _, rfl, _, rfl, a, _, _, .int (co r i), rfl, rfl, SqL.of (sA _ _ (s3 _ _ k)), atI_nat (get_int hri), rfl, _, rfl, ?_⟩
          rw [List.range_succ, List.filter_append]
          by_cases d : co r i = 0
          · rw [decide_eq_true (show V.int (co r i) = V.int 0 by rw [d])]
            refine iteF ⟨fun b o e => sA _ _ (s3 _ _ e), ?_⟩
            rw [sA _ _ hL, List.filter_cons_of_neg (by rw [eg, d]; decide), List.filter_nil, List.append_nil]
          · rw [decide_eq_false fun z => d (V.int.inj z)]
            refine iteT ⟨_, rfl, _, sA _ _ hL, ?_, fun b o e => ?_, ?_⟩
            · rw [List.length_map, List.length_map]
              have hj : j < (eS less rows i).1.length := (List.getElem?_eq_some_iff.mp e2).1
              have h1 := List.length_filter_le (fun k => co ((eS less rows i).1.getD k []) i != 0) (List.range j)
              rw [List.length_range] at h1
              have := eS_cnt less rows i
              exact small1000 (by omega)
            · rw [upd_ne (ne_of_none e hD2)]
              exact sA _ _ (s3 _ _ e)
            · rw [upd_same, List.filter_cons_of_pos (by rw [eg]; simpa using d), List.filter_nil, List.map_append, List.map_append]
              rfl
        · obtain ⟨s3, hL⟩ := hP
          rw [List.length_map, rL.len] at hL
          have hL : H3 D2 = some (.lst ((hds (eS less rows i).1 i).map V.int)) := hL
          have s4 : Same H H3 := fun b o e => s3 _ _ (sH _ _ e)
          refine ⟨_, rfl, by decide, fun N hN => ne_lintsL (xs := hds (eS less rows i).1 i) (ys := []) (SqL.of (same_upd0 hN _ _ hL)) (SqL.of upd_same) ⟨_, rfl, ?_⟩⟩
          have s5 : Same H (upd H3 N (.lst [])) := fun b o e => same_upd0 hN _ _ (s4 _ _ e)
          have s6 : Same H' (upd H3 N (.lst [])) := fun b o e => same_upd0 hN _ _ (s3 _ _ e)
          cases eh : hix (eS less rows i).1 i with
          | none =>
            have e0 : hds (eS less rows i).1 i = [] := by
              have q := hds_hix (eS less rows i).1 i
              rw [eh] at q
              cases e1 : hds (eS less rows i).1 i with
              | nil => rfl
              | cons y ys =>
                rw [e1] at q
                cases q
            rw [e0]
            refine iteF ⟨L, F, ls', fs, y4, some (.int i), some (.ref D2), y7, y8, rfl, s5, nL, nLF, s6 _ _ eL, s6 _ _ eF, ?_, ?_⟩
            · show RR _ ls' (stp less i (eS less rows i)).1
              rw [stp_none eh]
              exact rL.same s6
            · show RR _ fs (stp less i (eS less rows i)).2
              rw [stp_none eh]
              exact rF.same s6
          | some h =>
            have q := hds_hix (eS less rows i).1 i
            rw [eh] at q
            have en : hds (eS less rows i).1 i ≠ [] := fun z => by
              rw [z] at q
              cases q
            rw [decide_eq_false en]
            have hL2 := same_upd0 (o := .lst []) hN _ _ hL
            generalize upd H3 N (.lst []) = H4 at s5 s6 hL2 ⊢
            refine iteT ?_
            obtain ⟨hh, _, _⟩ := List.findIdx?_eq_some_iff_getElem.mp eh
            obtain ⟨ad, r, g1, g2, g3⟩ := RX.get rL hh
            have eg : (eS less rows i).1.getD h [] = r := by rw [List.getD_eq_getElem?_getD, g2]; rfl
            have hll : h < (ls'.map V.ref).length := by
              rw [List.length_map]
              exact (List.getElem?_eq_some_iff.mp g1).1
            have hsm : (ls'.map V.ref).length ≤ 100 := by have := eS_cnt less rows i; rw [List.length_map, rL.len]; omega
            have hsi : seqIndex? (h : Int) (ls'.map V.ref).length = some h := by
              unfold seqIndex?
              have n1 : ¬ ((h : Int) < 0) := by omega
              simp only [if_neg n1]
              rw [if_pos (by simp; simpa using hll)]
              rfl
            have q0 : ((hds (eS less rows i).1 i).map V.int)[0]? = some (V.int (h : Nat)) := by
              rw [List.getElem?_map, q]
              rfl
            refine ⟨_, rfl, .inl ⟨rfl, _, SqL.of (s6 _ _ eL)⟩, _, rfl, D2, _, 0, .int (h : Nat), rfl, rfl, SqL.of hL2, atI_nat (j := 0) q0, L, _, (h : Nat), h, .ref ad, rfl, rfl, s6 _ _ eL, by omega, by omega, hsi, by rw [List.getElem?_map, g1]; rfl, ?_⟩
            have s7 : Same H (upd H4 L (.lst ((ls'.map V.ref).eraseIdx h))) := fun b o e => by
              rw [upd_ne (ne_of_none e nL)]
              exact s5 _ _ e
            have eL7 : (upd H4 L (.lst ((ls'.map V.ref).eraseIdx h))) L = some (.lst ((ls'.eraseIdx h).map V.ref)) := by
              rw [upd_same]
              rw [erase_map]
            have eF7 : (upd H4 L (.lst ((ls'.map V.ref).eraseIdx h))) F = some (.lst (fs.map V.ref)) := by
              rw [upd_ne (Ne.symm nLF)]
              exact s6 _ _ eF
            have hls : ls' ≠ [] := fun z => by
              rw [z] at hll
              exact absurd hll (Nat.not_lt_zero _)
            have rL7 : RR (upd H4 L (.lst ((ls'.map V.ref).eraseIdx h))) (ls'.eraseIdx h) ((eS less rows i).1.eraseIdx h) := RX.erase h (RR.upd (rL.same s6) (s6 _ _ eL) fun _ => hls)
            have rF7 : RR (upd H4 L (.lst ((ls'.map V.ref).eraseIdx h))) fs (eS less rows i).2 := RR.upd (rF.same s6) (s6 _ _ eL) fun _ => hls
            have g7 : (upd H4 L (.lst ((ls'.map V.ref).eraseIdx h))) ad = some (ls r) := by
              rw [upd_ne (row_ne (s6 _ _ g3) (s6 _ _ eL) hls)]
              exact s6 _ _ g3
            generalize upd H4 L (.lst ((ls'.map V.ref).eraseIdx h)) = H7 at s7 eL7 eF7 rL7 rF7 g7 ⊢
            have hok := ok.l i hi h eh
            rw [eg] at hok
            obtain ⟨n1, n2⟩ := eS_len hw i
            have hrl : r.length = n := n1 r (List.mem_of_getElem? g2)
            have hFl : (eS less rows i).2.length ≤ 100 := by have := eS_cnt less rows i; omega
            refine ⟨_, rfl, F, rfl, ⟨_, SqL.of eF7⟩, fun N2 hN2 => lc_rows (f := fun x => less x r i) hN2 eF7 rF7 hFl (fun _ => rfl) (fun ad2 r2 H2 Q2 hr2 s8 e8 kq => ⟨_, rfl, _, rfl, _, rfl, ad2, ad, r2, r, i, rfl, e8, s8 _ _ g7, by rw [n2 r2 hr2, hrl], by rw [n2 r2 hr2]; exact hn, by rw [n2 r2 hr2]; exact hi, fun _ => hok r2 (.inr hr2), kq⟩) (fun r2 hr2 z => ?_) (fun bs8 H8 s8 e8 r8 => ?_)⟩
            · have := less_len r2 r i
              rw [z, n2 r2 hr2] at this
              have : 0 = n := this
              omega
            · refine ⟨N2, _, rfl, .inr (SqL.of e8), _, rfl, ?_, fun F2 hF2 => ?_⟩
              · rw [List.length_append, List.length_map, r8.len, List.length_map]
                exact Nat.le_trans (Nat.add_le_add_right hFl 1) (by decide)
              have s9 : Same H7 (upd H8 F2 (.lst (bs8.map V.ref ++ [.ref ad]))) := fun b o e => same_upd0 hF2 _ _ (s8 _ _ e)
              have eF9 : (upd H8 F2 (.lst (bs8.map V.ref ++ [.ref ad]))) F2 = some (.lst ((bs8 ++ [ad]).map V.ref)) := by
                rw [upd_same, List.map_append]
                rfl
              have r9 : RR (upd H8 F2 (.lst (bs8.map V.ref ++ [.ref ad]))) (bs8 ++ [ad]) ((eS less rows i).2.map (fun x => less x r i) ++ [r]) := RX.snoc (r8.same (same_upd0 hF2)) (s9 _ _ g7)
              generalize upd H8 F2 (.lst (bs8.map V.ref ++ [.ref ad])) = H9 at s9 eF9 r9 ⊢
              have hLl : ((eS less rows i).1.eraseIdx h).length ≤ 100 := by have := eS_cnt less rows i; rw [List.length_eraseIdx_of_lt hh]; omega
              refine ⟨_, rfl, L, rfl, ⟨_, SqL.of (s9 _ _ eL7)⟩, fun L2 hL2 => lc_rows (f := fun x => less x r i) hL2 (s9 _ _ eL7) (rL7.same s9) hLl (fun _ => rfl) (fun ad2 r2 H2 Q2 hr2 s8 e8 kq => ⟨_, rfl, _, rfl, _, rfl, ad2, ad, r2, r, i, rfl, e8, s8 _ _ (s9 _ _ g7), by rw [n1 r2 (List.mem_of_mem_eraseIdx hr2), hrl], by rw [n1 r2 (List.mem_of_mem_eraseIdx hr2)]; exact hn, by rw [n1 r2 (List.mem_of_mem_eraseIdx hr2)]; exact hi, fun _ => hok r2 (.inl hr2), kq⟩) (fun r2 hr2 z => ?_) (fun bsA HA sA eA rA => ?_)⟩
              · have := less_len r2 r i
                rw [z, n1 r2 (List.mem_of_mem_eraseIdx hr2)] at this
                have : 0 = n := this
                omega
              · have nL2 : H L2 = none := by
                  cases e : H L2 with
                  | none => rfl
                  | some o =>
                    rw [s9 _ _ (s7 _ _ e)] at hL2
                    cases hL2
                refine ⟨L2, F2, bsA, bs8 ++ [ad], y4, some (.int i), some (.ref D2), y7, some (.ref ad), rfl, fun b o e => sA _ _ (s9 _ _ (s7 _ _ e)), nL2, fun e => ?_, eA, sA _ _ eF9, ?_, ?_⟩
                · rw [e, eF9] at hL2
                  cases hL2
                · show RR HA bsA (stp less i (eS less rows i)).1
                  rw [stp_some eh, eg]
                  exact rA
                · show RR HA (bs8 ++ [ad]) (stp less i (eS less rows i)).2
                  rw [stp_some eh, eg]
                  exact r9.same sA
      · obtain ⟨L, F, ls', fs, y4, y5, y6, y7, y8, rfl, sH, nL, nLF, eL, eF, rL, rF⟩ := hP
        have hFl : (eS less rows n).2.length ≤ 100 := by have := eS_cnt less rows n; omega
        have n2 := (eS_len hw n).2
        refine ⟨_, rfl, F, rfl, ⟨_, SqL.of eF⟩, fun D2 hD2 => lc_rowsS (Ps := Ps) (f := prim) (hG.same sH) hD2 eF rF hFl (fun _ => rfl) (fun ad r H2 Q2 hr2 s8 t8 e8 kq => ⟨_, rfl, ad, r, rfl, e8, by rw [n2 r hr2]; exact hn, ok.d r hr2, t8, kq⟩) (fun r hr2 z => ?_) (fun bs8 H8 s8 t8 e8 r8 => q D2 bs8 H8 ((Sts.of sH).trans s8) t8 e8 r8)⟩
        have e0 := prim_len r
        rw [z, n2 r hr2] at e0
        have e0 : n = 0 := e0.symm
        subst e0
        cases hr2
end
end K01

set_option Elab.async false
set_option linter.all false
set_option maxRecDepth 100000
set_option maxHeartbeats 4000000
namespace K01
open PySem PySem.Spec PyProof.Rows L2 StX RZ MyR SlX OwnR OwnF EnumT GxR GenNx FDivQ
theorem RT.same {H H' : Hp} {as : List Addr} {rs : List (List Int)} (h : RT H as rs) (s : Same H H') : RT H' as rs := RX.imp (fun a r e => s _ _ e) h
theorem RT.updL {H : Hp} {D : Addr} {o : HO} {xs : List V} {as : List Addr} {rs : List (List Int)} (h : RT H as rs) (hD : H D = some (.lst xs)) : RT (L2.upd H D o) as rs :=
  RX.imp (fun a r e => by rw [upd_ne (fun z => by rw [z, hD] at e; cases e)]; exact e) h
theorem lless_len (row head : List Int) (p : Nat) : (lless row head p).length = row.length := by
  unfold lless dv lf
  split
  · rw [List.length_map, tb_len]
  · rw [tb_len]
/-- a comprehension over a list of rows that makes a row of each -/
theorem lc_rowsT {K : PySem.W.Frag} {a : Addr} {fs : List Addr} {R : List (List Int)} {f : List Int → List Int} {te : TE} {σ : L2.St} {k : Nat} {H1 : Hp} {D : Addr} {Qd : Hp → Prop} (hD : H1 D = none) (ha : H1 a = some (.lst (fs.map V.ref))) (hR : RR H1 fs R) (hl : R.length ≤ 100)
    (hw : ∀ x, wipe ((wipe σ [k]).set k (some x)) [k] = wipe σ [k])
    (hte : ∀ (ad : Addr) (r : List Int) (H2 : Hp) (Q : VK), r ∈ R → Same H1 H2 → H2 ad = some (ls r) → (∀ q H3, Same H2 H3 → H3 q = some (tp (f r)) → Q (.ref q) H3) → te ((wipe σ [k]).set k (some (.ref ad))) H2 Q)
    (hd : ∀ bs H6, Same H1 H6 → H6 D = some (.lst (bs.map V.ref)) → RT H6 bs (R.map f) → Qd H6) :
    ∃ W : Nat → Nat → Hp → Prop, (∃ m, W 0 m (upd H1 D (.lst []))) ∧ ∀ i m H, W i m H →
      ((Itl K a).stop i H ∧ Qd H) ∨ ((Itl K a).go i H ∧ ∃ Nx : Hp → Prop, (∀ H', Nx H' → ∃ m', m' < m ∧ W (i + 1) m' H') ∧ ∀ x H', (Itl K a).yld i H x H' → gName k x (wipe σ [k]) H' fun σ2 H2 => wipe σ2 [k] = wipe σ [k] ∧ tYes σ2 H2 fun b H3 =>
        if b = true then te σ2 H3 fun y H4 => ∃ acc, H4 D = some (.lst acc) ∧ acc.length < sizeLine ∧ Nx (upd H4 D (.lst (acc ++ [y]))) else Nx H3) := by
  refine lc_list (xs := fs.map V.ref) (fun j H' => ∃ bs, Same H1 H' ∧ H' D = some (.lst (bs.map V.ref)) ∧ bs.length = j ∧ RT H' bs ((R.take j).map f)) ⟨[], same_upd0 hD, upd_same, rfl, True.intro⟩ (fun j H' _ hP => SqL.of (hP.choose_spec.1 _ _ ha)) (fun j x H' hx hP => ?_) (fun H' hP => ?_)
  · obtain ⟨bs, s1, h1, h2, h3⟩ := hP
    rw [List.getElem?_map] at hx
    obtain ⟨ad, had, rfl⟩ := Option.map_eq_some_iff.mp hx
    obtain ⟨ad', r, e1, e2, e3⟩ := RX.get hR (by rw [← hR.len]; exact (List.getElem?_eq_some_iff.mp had).1)
    rw [had] at e1
    cases e1
    have hj : j < R.length := (List.getElem?_eq_some_iff.mp e2).1
    refine ⟨hw _, ?_⟩
    show te _ _ _
    refine hte ad r H' _ (List.mem_of_getElem? e2) s1 (s1 _ _ e3) fun q H3 s3 e4 => ⟨bs.map V.ref, s3 _ _ h1, ?_, bs ++ [q], fun b o e => ?_, ?_, ?_, ?_⟩
    · rw [List.length_map, h2]
      exact small1000 (by omega)
    · rw [upd_ne (ne_of_none e hD)]
      exact s3 _ _ (s1 _ _ e)
    · rw [upd_same, List.map_append]
      rfl
    · rw [List.length_append, h2]
      rfl
    · rw [List.take_add_one, e2, List.map_append]
      refine RX.snoc (RT.updL (RT.same h3 s3) (s3 _ _ h1)) ?_
      show upd H3 D _ q = _
      by_cases hq : q = D
      · rw [hq, s3 _ _ h1] at e4
        cases e4
      · rw [upd_ne hq]
        exact e4
  · obtain ⟨bs, s1, h1, h2, h3⟩ := hP
    rw [List.length_map, hR.len, List.take_length] at h3
    exact hd bs H' s1 h1 h3
theorem eS_lenL {rows : List (List Int)} {n : Nat} (h : ∀ r ∈ rows, r.length = n) : ∀ p, (∀ r ∈ (eS lless rows p).1, r.length = n) ∧ ∀ r ∈ (eS lless rows p).2, r.length = n
  | 0 => ⟨h, fun r hr => absurd hr List.not_mem_nil⟩
  | p + 1 => by
    obtain ⟨h1, h2⟩ := eS_lenL h p
    show (∀ r ∈ (stp lless p (eS lless rows p)).1, r.length = n) ∧ ∀ r ∈ (stp lless p (eS lless rows p)).2, r.length = n
    cases e : hix (eS lless rows p).1 p with
    | none =>
      rw [stp_none e]
      exact ⟨h1, h2⟩
    | some k =>
      rw [stp_some e]
      refine ⟨fun r hr => ?_, fun r hr => ?_⟩
      · obtain ⟨x, hx, rfl⟩ := List.mem_map.mp hr
        rw [lless_len]
        exact h1 x (List.mem_of_mem_eraseIdx hx)
      · rcases List.mem_append.mp hr with hr | hr
        · obtain ⟨x, hx, rfl⟩ := List.mem_map.mp hr
          rw [lless_len]
          exact h2 x hx
        · rw [List.mem_singleton.mp hr]
          obtain ⟨hk, _, _⟩ := List.findIdx?_eq_some_iff_getElem.mp e
          rw [List.getD_eq_getElem?_getD, List.getElem?_eq_getElem hk]
          exact h1 _ (List.getElem_mem hk)
section
variable {P : Program} {w : World} {K : PySem.W.Frag} {mg : Str → Option Value} {base : Heap} {Ps : List Addr}
def spLEch : Sp := fun vs H Q _ => ∃ (t : Addr) (as : List Addr) (rows : List (List Int)) (n : Nat), vs = [.ref t, .int n] ∧ (H t = some (.tup (as.map V.ref)) ∨ H t = some (.lst (as.map V.ref))) ∧ RA H as rows ∧ rows.length ≤ 100 ∧ n ≤ 100 ∧ (∀ r ∈ rows, r.length = n) ∧
  EOk lless rows n ∧ ∀ p bs H', Same H H' → H' p = some (.lst (bs.map V.ref)) → RT H' bs (ech lless rows n) → Q (.ref p) H'
theorem ok_law_cleared (T : Facts K mg) : FnOk P w K mg base CX0 4 T.f_law_cleared T.fd_law_cleared ["_law_rows", "_law_width"] spLEch := by
  have G_law_less : FnOk P w K mg base CX0 3 T.f_law_less T.fd_law_less ["_law_row", "_law_head", "_law_place"] spLLess := ok_law_less T
  have G_law_plain : FnOk P w K mg base CX0 3 T.f_law_plain T.fd_law_plain ["_law_form"] spPlain := ok_law_plain T
  refine T.F_law_cleared.ok sc_law_cleared (fun vs H Q E h => ?_) (fun cdv A outer s H vs Q E hr h => ?_)
  · obtain ⟨t, as, rows, n, rfl, _⟩ := h
    rfl
  · obtain ⟨t, as, rows, n, rfl, hS, hA, hl, hn, hw, ok, q⟩ := h
    refine ⟨_, (PSs.nox (pss_cons (ps_par (i := 2) (j := 3) (by rfl) sc_law_cleared.nd rfl rfl (by decide) rfl rfl (pa_cons (pe_lc (own := [("_law_row", 4)]) (g := (gName 4)) (tt := tYes) (by rfl) sc_law_cleared.nd (SeqE.PI_or (pi_tup (pv 0)) (pi_list (pv 0))) (blkOk_by (N := N_law_cleared) (sc := defScope s_law_cleared) (by decide +kernel)) (fun _ _ _ _ _ => (pg_name (i := 4) sc_law_cleared.nd rfl (.inl rfl))) (fun _ _ _ _ _ => pts_nil) (fun _ _ _ _ _ => (pe_callTy (ListOf.call_list_ofK (by rfl) : CallR _ (.type "list") (ListOf.rListOf K)) (by rfl) T.z_list (by decide +kernel) (pa_cons (pv 4) pa_nil)))) (pa_cons (pe_lst pa_nil) pa_nil)) (by rfl))
    (pss_cons (ps_for PassesOwn.never (by rfl) (pi_range1 (by rfl) T.z_range (pa_cons (pv 1) pa_nil)) (pg_name (i := 5) sc_law_cleared.nd rfl (.inr rfl))
      (pss_cons (ps_setLc (i := 6) (own := [("_law_row", 4), ("_law_at", 7)]) (g := (gTup K 2 (gCons (gName 7) (gCons (gName 4) gNil)))) rfl sc_law_cleared.nd rfl rfl (sw_true rfl rfl rfl (by decide +kernel)) (pi_enum (by rfl) T.z_enumerate (pa_cons (pv 2) pa_nil)) (blkOk_by (N := N_law_cleared) (sc := defScope s_law_cleared) (by decide +kernel)) (fun _ _ _ _ _ => (pg_tup (by rfl) (pgs_cons (pg_name (i := 7) sc_law_cleared.nd rfl (.inl rfl)) (pgs_cons (pg_name (i := 4) sc_law_cleared.nd rfl (.inl rfl)) pgs_nil)))) (fun _ _ _ _ _ => (pts_one (pt_cmpR op_ne (pe_ix (ix_list : IxR _ (rIxL K)) (pv 4) (pv 5) (fun _ _ => rfl)) pe_int (nomark _)))) (fun _ _ _ _ _ => (pv 7)))
      (pss_one (ps_if (pt_cmpR (op_neD (hu64 hr)) (pv 6) (pe_lst pa_nil) (nomark _))
        (pss_cons (ps_set (i := 8) sc_law_cleared.nd rfl (.inr rfl) (pe_bm PySem.F.plainAttrs_list PySem.F.slot_list_pop PySem.F.type_list_pop mt_popAt (pv 2) (pa_cons (pe_ix ix_list (pv 6) pe_int (fun _ _ => rfl)) pa_nil)))
        (pss_cons (ps_set (i := 3) sc_law_cleared.nd rfl (.inl rfl) (pe_op op_cat (pe_lc (own := [("_law_row", 4)]) (g := (gName 4)) (tt := tYes) (by rfl) sc_law_cleared.nd (pi_list (pv 3)) (blkOk_by (N := N_law_cleared) (sc := defScope s_law_cleared) (by decide +kernel)) (fun _ _ _ _ _ => (pg_name (i := 4) sc_law_cleared.nd rfl (.inl rfl))) (fun _ _ _ _ _ => pts_nil) (fun _ _ _ _ _ => (pe_call G_law_less hr (by rfl) T.g_law_less T.F_law_less.kp T.b_law_less .nil pass0 (pa_cons (pv 4) (pa_cons (pv 8) (pa_cons (pv 5) pa_nil)))))) (pe_lst (pa_cons (pv 8) pa_nil))))
        (pss_one (ps_setLc (i := 2) (own := [("_law_row", 4)]) (g := (gName 4)) (tt := tYes) rfl sc_law_cleared.nd rfl rfl (sw_true rfl rfl rfl (by decide +kernel)) (pi_list (pv 2)) (blkOk_by (N := N_law_cleared) (sc := defScope s_law_cleared) (by decide +kernel)) (fun _ _ _ _ _ => (pg_name (i := 4) sc_law_cleared.nd rfl (.inl rfl))) (fun _ _ _ _ _ => pts_nil) (fun _ _ _ _ _ => (pe_call G_law_less hr (by rfl) T.g_law_less T.F_law_less.kp T.b_law_less .nil pass0 (pa_cons (pv 4) (pa_cons (pv 8) (pa_cons (pv 5) pa_nil)))))))))
        pss_nil))))
    (pss_one (ps_ret (pe_lc (own := [("_law_row", 4)]) (g := (gName 4)) (tt := tYes) (by rfl) sc_law_cleared.nd (pi_list (pv 3)) (blkOk_by (N := N_law_cleared) (sc := defScope s_law_cleared) (by decide +kernel)) (fun _ _ _ _ _ => (pg_name (i := 4) sc_law_cleared.nd rfl (.inl rfl))) (fun _ _ _ _ _ => pts_nil) (fun _ _ _ _ _ => (pe_call G_law_plain hr (by rfl) T.g_law_plain T.F_law_plain.kp T.b_law_plain .nil pass0 (pa_cons (pe_tupleOf (by rfl) T.z_tuple (pv 4) : PE _ _ (tThen _ (kTup K))) pa_nil))))))))), ?_⟩
    have step : ∀ (i : Nat) (x : V) (D : Addr) (H' : Hp), H D = none → (as.map V.ref)[i]? = some x → (∃ bs, Same H H' ∧ H' D = some (.lst (bs.map V.ref)) ∧ bs.length = i ∧ RR H' bs (rows.take i)) →
        ∃ a r, x = .ref a ∧ (H' a = some (ls r) ∨ H' a = some (tp r)) ∧ ∀ l, H' l = none → ∃ acc, (upd H' l (ls r)) D = some (.lst acc) ∧ acc.length < sizeLine ∧ ∃ bs, Same H (upd (upd H' l (ls r)) D (.lst (acc ++ [.ref l]))) ∧ (upd (upd H' l (ls r)) D (.lst (acc ++ [.ref l]))) D = some (.lst (bs.map V.ref)) ∧ bs.length = i + 1 ∧ RR (upd (upd H' l (ls r)) D (.lst (acc ++ [.ref l]))) bs (rows.take (i + 1)) := fun i x D H' hD hx hP => by
      obtain ⟨bs, s1, h1, h2, h3⟩ := hP
      rw [List.getElem?_map] at hx
      obtain ⟨a, ha, rfl⟩ := Option.map_eq_some_iff.mp hx
      have hi : i < rows.length := by
        rw [← hA.len]
        exact (List.getElem?_eq_some_iff.mp ha).1
      obtain ⟨a', r, e1, e2, k⟩ := RX.get hA hi
      rw [ha] at e1
      cases e1
      refine ⟨a, r, rfl, k.symm.imp (s1 _ _) (s1 _ _), fun l hl => ⟨bs.map V.ref, ?_, ?_, bs ++ [l], ?_, ?_, ?_, ?_⟩⟩
      · exact same_upd0 hl _ _ h1
      · rw [List.length_map, h2]
        exact small1000 (by omega)
      · intro b o e
        rw [upd_ne (ne_of_none e hD)]
        exact same_upd0 hl _ _ (s1 _ _ e)
      · rw [upd_same, List.map_append]
        rfl
      · rw [List.length_append, h2]
        rfl
      · have lD : l ≠ D := fun e => by
          rw [e, h1] at hl
          cases hl
        have hr2 : RR (upd H' l (ls r)) bs (rows.take i) := h3.same (same_upd0 hl)
        have et : rows.take (i + 1) = rows.take i ++ [r] := by
          rw [List.take_add_one, e2]
          rfl
        rw [et]
        refine RX.snoc (RR.upd hr2 (same_upd0 hl _ _ h1) fun z => z) ?_
        show upd (upd H' l (ls r)) D _ l = _
        rw [upd_ne lD]
        exact upd_same
    rcases hS with hS | hS
    case' inl =>
      refine .inl ⟨_, rfl, t, rfl, ⟨_, SqT.of hS⟩, fun D hD => ?_⟩
      refine lc_tup (xs := as.map V.ref) (fun j H' => ∃ bs, Same H H' ∧ H' D = some (.lst (bs.map V.ref)) ∧ bs.length = j ∧ RR H' bs (rows.take j)) ⟨[], same_upd0 hD, upd_same, rfl, True.intro⟩ (fun j H' _ hP => SqT.of (hP.choose_spec.1 _ _ hS)) (fun j x H' hx hP => by
        obtain ⟨a, r, rfl, k, f⟩ := step j x D H' hD hx hP
        exact ⟨rfl, _, rfl, a, r.map V.int, rfl, k.imp SqL.of SqT.of, fun l hl => f l hl⟩) (fun H1 hP => ?_)
    case' inr =>
      refine .inr ⟨_, rfl, t, rfl, ⟨_, SqL.of hS⟩, fun D hD => ?_⟩
      refine lc_list (xs := as.map V.ref) (fun j H' => ∃ bs, Same H H' ∧ H' D = some (.lst (bs.map V.ref)) ∧ bs.length = j ∧ RR H' bs (rows.take j)) ⟨[], same_upd0 hD, upd_same, rfl, True.intro⟩ (fun j H' _ hP => SqL.of (hP.choose_spec.1 _ _ hS)) (fun j x H' hx hP => by
        obtain ⟨a, r, rfl, k, f⟩ := step j x D H' hD hx hP
        exact ⟨rfl, _, rfl, a, r.map V.int, rfl, k.imp SqL.of SqT.of, fun l hl => f l hl⟩) (fun H1 hP => ?_)
    all_goals
      clear step
      obtain ⟨bs, s1, h1, h2, h3⟩ := hP
      rw [show rows.take ((as.map V.ref).length) = rows by rw [List.length_map, hA.len, List.take_length]] at h3
      have hbl := h3.len
      dsimp only [tCons, tLst, tNil]
      refine ⟨by decide, fun F hF => ⟨_, _, rfl, ?_⟩⟩
      have s2 : Same H (upd H1 F (.lst [])) := fun b o e => same_upd0 hF _ _ (s1 _ _ e)
      refine ⟨_, rfl, _, rfl, by omega, by omega, for_range (n := n) (fun i σ H' => ∃ L F ls' fs y4 y5 y6 y7 y8, σ = [some (.ref t), some (.int n), some (.ref L), some (.ref F), y4, y5, y6, y7, y8] ∧ Same H H' ∧ H L = none ∧ L ≠ F ∧ H' L = some (.lst (ls'.map V.ref)) ∧ H' F = some (.lst (fs.map V.ref)) ∧ RR H' ls' (eS lless rows i).1 ∧ RR H' fs (eS lless rows i).2) ⟨D, F, bs, [], none, none, none, none, none, rfl, s2, hD, (fun e => by rw [e, hF] at h1; cases h1), same_upd0 hF _ _ h1, upd_same, h3.same (same_upd0 hF), True.intro⟩ (fun i σ H' hi hP => ?_) (fun σ H' hP => ?_)⟩
      · obtain ⟨L, F, ls', fs, y4, y5, y6, y7, y8, rfl, sH, nL, nLF, eL, eF, rL, rF⟩ := hP
        rw [Int.zero_add]
        refine ⟨_, rfl, L, _, rfl, SqL.of eL, fun D2 hD2 => ?_⟩
        refine lc_enumL (xs := ls'.map V.ref) (fun j H3 => Same H' H3 ∧ H3 D2 = some (.lst ((((List.range j).filter fun k => co ((eS lless rows i).1.getD k []) i != 0).map fun (k : Nat) => (k : Int)).map V.int))) ⟨same_upd0 hD2, upd_same⟩ (fun j H3 _ hP => SqL.of (hP.1 _ _ eL)) (fun j x A H3 hx hP hA => ?_) (fun H3 hP => ?_)
        · obtain ⟨s3, hL⟩ := hP
          rw [List.getElem?_map] at hx
          obtain ⟨a, ha, rfl⟩ := Option.map_eq_some_iff.mp hx
          obtain ⟨a', r, e1, e2, k⟩ := RX.get rL (by rw [← rL.len]; exact (List.getElem?_eq_some_iff.mp ha).1)
          rw [ha] at e1
          cases e1
          have eg : (eS lless rows i).1.getD j [] = r := by rw [List.getD_eq_getElem?_getD, e2]; rfl
          have sA := same_upd0 (o := .tup [.int (j : Nat), .ref a]) hA
          have hri : i < r.length := by rw [(eS_lenL hw i).1 r (List.mem_of_getElem? e2)]; exact hi
          refine ⟨A, _, rfl, SqT.of upd_same, rfl, _, _, rfl, _, _, rfl, rfl, rfl, _, rfl, _, rfl, a, _, _, .int (co r i), rfl, rfl, SqL.of (sA _ _ (s3 _ _ k)), atI_nat (get_int hri), rfl, _, rfl, ?_⟩
          rw [List.range_succ, List.filter_append]
          by_cases d : co r i = 0
          · rw [decide_eq_true (show V.int (co r i) = V.int 0 by rw [d])]
            refine iteF ⟨fun b o e => sA _ _ (s3 _ _ e), ?_⟩
            rw [sA _ _ hL, List.filter_cons_of_neg (by rw [eg, d]; decide), List.filter_nil, List.append_nil]
          · rw [decide_eq_false fun z => d (V.int.inj z)]
            refine iteT ⟨_, rfl, _, sA _ _ hL, ?_, fun b o e => ?_, ?_⟩
            · rw [List.length_map, List.length_map]
              have hj : j < (eS lless rows i).1.length := (List.getElem?_eq_some_iff.mp e2).1
              have h1 := List.length_filter_le (fun k => co ((eS lless rows i).1.getD k []) i != 0) (List.range j)
              rw [List.length_range] at h1
              have := eS_cnt lless rows i
              exact small1000 (by omega)
            · rw [upd_ne (ne_of_none e hD2)]
              exact sA _ _ (s3 _ _ e)
            · rw [upd_same, List.filter_cons_of_pos (by rw [eg]; simpa using d), List.filter_nil, List.map_append, List.map_append]
              rfl
        · obtain ⟨s3, hL⟩ := hP
          rw [List.length_map, rL.len] at hL
          have hL : H3 D2 = some (.lst ((hds (eS lless rows i).1 i).map V.int)) := hL
          have s4 : Same H H3 := fun b o e => s3 _ _ (sH _ _ e)
          refine ⟨_, rfl, by decide, fun N hN => ne_lintsL (xs := hds (eS lless rows i).1 i) (ys := []) (SqL.of (same_upd0 hN _ _ hL)) (SqL.of upd_same) ⟨_, rfl, ?_⟩⟩
          have s5 : Same H (upd H3 N (.lst [])) := fun b o e => same_upd0 hN _ _ (s4 _ _ e)
          have s6 : Same H' (upd H3 N (.lst [])) := fun b o e => same_upd0 hN _ _ (s3 _ _ e)
          cases eh : hix (eS lless rows i).1 i with
          | none =>
            have e0 : hds (eS lless rows i).1 i = [] := by
              have q := hds_hix (eS lless rows i).1 i
              rw [eh] at q
              cases e1 : hds (eS lless rows i).1 i with
              | nil => rfl
              | cons y ys =>
                rw [e1] at q
                cases q
            rw [e0]
            refine iteF ⟨L, F, ls', fs, y4, some (.int i), some (.ref D2), y7, y8, rfl, s5, nL, nLF, s6 _ _ eL, s6 _ _ eF, ?_, ?_⟩
            · show RR _ ls' (stp lless i (eS lless rows i)).1
              rw [stp_none eh]
              exact rL.same s6
            · show RR _ fs (stp lless i (eS lless rows i)).2
              rw [stp_none eh]
              exact rF.same s6
          | some h =>
            have q := hds_hix (eS lless rows i).1 i
            rw [eh] at q
            have en : hds (eS lless rows i).1 i ≠ [] := fun z => by
              rw [z] at q
              cases q
            rw [decide_eq_false en]
            have hL2 := same_upd0 (o := .lst []) hN _ _ hL
            generalize upd H3 N (.lst []) = H4 at s5 s6 hL2 ⊢
            refine iteT ?_
            obtain ⟨hh, _, _⟩ := List.findIdx?_eq_some_iff_getElem.mp eh
            obtain ⟨ad, r, g1, g2, g3⟩ := RX.get rL hh
            have eg : (eS lless rows i).1.getD h [] = r := by rw [List.getD_eq_getElem?_getD, g2]; rfl
            have hll : h < (ls'.map V.ref).length := by
              rw [List.length_map]
              exact (List.getElem?_eq_some_iff.mp g1).1
            have hsm : (ls'.map V.ref).length ≤ 100 := by have := eS_cnt lless rows i; rw [List.length_map, rL.len]; omega
            have hsi : seqIndex? (h : Int) (ls'.map V.ref).length = some h := by
              unfold seqIndex?
              have n1 : ¬ ((h : Int) < 0) := by omega
              simp only [if_neg n1]
              rw [if_pos (by simp; simpa using hll)]
              rfl
            have q0 : ((hds (eS lless rows i).1 i).map V.int)[0]? = some (V.int (h : Nat)) := by
              rw [List.getElem?_map, q]
              rfl
            refine ⟨_, rfl, .inl ⟨rfl, _, SqL.of (s6 _ _ eL)⟩, _, rfl, D2, _, 0, .int (h : Nat), rfl, rfl, SqL.of hL2, atI_nat (j := 0) q0, L, _, (h : Nat), h, .ref ad, rfl, rfl, s6 _ _ eL, by omega, by omega, hsi, by rw [List.getElem?_map, g1]; rfl, ?_⟩
            have s7 : Same H (upd H4 L (.lst ((ls'.map V.ref).eraseIdx h))) := fun b o e => by
              rw [upd_ne (ne_of_none e nL)]
              exact s5 _ _ e
            have eL7 : (upd H4 L (.lst ((ls'.map V.ref).eraseIdx h))) L = some (.lst ((ls'.eraseIdx h).map V.ref)) := by
              rw [upd_same]
              rw [erase_map]
            have eF7 : (upd H4 L (.lst ((ls'.map V.ref).eraseIdx h))) F = some (.lst (fs.map V.ref)) := by
              rw [upd_ne (Ne.symm nLF)]
              exact s6 _ _ eF
            have hls : ls' ≠ [] := fun z => by
              rw [z] at hll
              exact absurd hll (Nat.not_lt_zero _)
            have rL7 : RR (upd H4 L (.lst ((ls'.map V.ref).eraseIdx h))) (ls'.eraseIdx h) ((eS lless rows i).1.eraseIdx h) := RX.erase h (RR.upd (rL.same s6) (s6 _ _ eL) fun _ => hls)
            have rF7 : RR (upd H4 L (.lst ((ls'.map V.ref).eraseIdx h))) fs (eS lless rows i).2 := RR.upd (rF.same s6) (s6 _ _ eL) fun _ => hls
            have g7 : (upd H4 L (.lst ((ls'.map V.ref).eraseIdx h))) ad = some (ls r) := by
              rw [upd_ne (row_ne (s6 _ _ g3) (s6 _ _ eL) hls)]
              exact s6 _ _ g3
            generalize upd H4 L (.lst ((ls'.map V.ref).eraseIdx h)) = H7 at s7 eL7 eF7 rL7 rF7 g7 ⊢
            have hok := ok.l i hi h eh
            rw [eg] at hok
            obtain ⟨n1, n2⟩ := eS_lenL hw i
            have hrl : r.length = n := n1 r (List.mem_of_getElem? g2)
            have hFl : (eS lless rows i).2.length ≤ 100 := by have := eS_cnt lless rows i; omega
            refine ⟨_, rfl, F, rfl, ⟨_, SqL.of eF7⟩, fun N2 hN2 => lc_rows (f := fun x => lless x r i) hN2 eF7 rF7 hFl (fun _ => rfl) (fun ad2 r2 H2 Q2 hr2 s8 e8 kq => ⟨_, rfl, _, rfl, _, rfl, ad2, ad, r2, r, i, rfl, e8, s8 _ _ g7, by rw [n2 r2 hr2, hrl], by rw [n2 r2 hr2]; exact hn, by rw [n2 r2 hr2]; exact hi, hok r2 (.inr hr2), kq⟩) (fun r2 hr2 z => ?_) (fun bs8 H8 s8 e8 r8 => ?_)⟩
            · have := lless_len r2 r i
              rw [z, n2 r2 hr2] at this
              have : 0 = n := this
              omega
            · refine ⟨_, rfl, (show 1 ≤ sizeLine by decide), fun N3 hN3 => ⟨N2, N3, bs8.map V.ref, [.ref ad], rfl, rfl, same_upd0 hN3 _ _ e8, upd_same, ?_, fun F2 hF2 => ?_⟩⟩
              · rw [List.length_map, r8.len, List.length_map]
                exact Nat.le_trans (Nat.add_le_add_right hFl 1) (by decide)
              have s8' : Same H7 (upd H8 N3 (.lst [.ref ad])) := fun b o e => same_upd0 hN3 _ _ (s8 _ _ e)
              have r8' := r8.same (same_upd0 (o := .lst [.ref ad]) hN3)
              generalize upd H8 N3 (.lst [.ref ad]) = H8' at s8' r8' hF2 ⊢
              have s9 : Same H7 (upd H8' F2 (.lst (bs8.map V.ref ++ [.ref ad]))) := fun b o e => same_upd0 hF2 _ _ (s8' _ _ e)
              have eF9 : (upd H8' F2 (.lst (bs8.map V.ref ++ [.ref ad]))) F2 = some (.lst ((bs8 ++ [ad]).map V.ref)) := by
                rw [upd_same, List.map_append]
                rfl
              have r9 : RR (upd H8' F2 (.lst (bs8.map V.ref ++ [.ref ad]))) (bs8 ++ [ad]) ((eS lless rows i).2.map (fun x => lless x r i) ++ [r]) := RX.snoc (r8'.same (same_upd0 hF2)) (s9 _ _ g7)
              generalize upd H8' F2 (.lst (bs8.map V.ref ++ [.ref ad])) = H9 at s9 eF9 r9 ⊢
              have hLl : ((eS lless rows i).1.eraseIdx h).length ≤ 100 := by have := eS_cnt lless rows i; rw [List.length_eraseIdx_of_lt hh]; omega
              refine ⟨_, rfl, L, rfl, ⟨_, SqL.of (s9 _ _ eL7)⟩, fun L2 hL2 => lc_rows (f := fun x => lless x r i) hL2 (s9 _ _ eL7) (rL7.same s9) hLl (fun _ => rfl) (fun ad2 r2 H2 Q2 hr2 s8 e8 kq => ⟨_, rfl, _, rfl, _, rfl, ad2, ad, r2, r, i, rfl, e8, s8 _ _ (s9 _ _ g7), by rw [n1 r2 (List.mem_of_mem_eraseIdx hr2), hrl], by rw [n1 r2 (List.mem_of_mem_eraseIdx hr2)]; exact hn, by rw [n1 r2 (List.mem_of_mem_eraseIdx hr2)]; exact hi, hok r2 (.inl hr2), kq⟩) (fun r2 hr2 z => ?_) (fun bsA HA sA eA rA => ?_)⟩
              · have := lless_len r2 r i
                rw [z, n1 r2 (List.mem_of_mem_eraseIdx hr2)] at this
                have : 0 = n := this
                omega
              · have nL2 : H L2 = none := by
                  cases e : H L2 with
                  | none => rfl
                  | some o =>
                    rw [s9 _ _ (s7 _ _ e)] at hL2
                    cases hL2
                refine ⟨L2, F2, bsA, bs8 ++ [ad], y4, some (.int i), some (.ref D2), y7, some (.ref ad), rfl, fun b o e => sA _ _ (s9 _ _ (s7 _ _ e)), nL2, fun e => ?_, eA, sA _ _ eF9, ?_, ?_⟩
                · rw [e, eF9] at hL2
                  cases hL2
                · show RR HA bsA (stp lless i (eS lless rows i)).1
                  rw [stp_some eh, eg]
                  exact rA
                · show RR HA (bs8 ++ [ad]) (stp lless i (eS lless rows i)).2
                  rw [stp_some eh, eg]
                  exact r9.same sA
      · obtain ⟨L, F, ls', fs, y4, y5, y6, y7, y8, rfl, sH, nL, nLF, eL, eF, rL, rF⟩ := hP
        have hFl : (eS lless rows n).2.length ≤ 100 := by have := eS_cnt lless rows n; omega
        have n2 := (eS_lenL hw n).2
        refine ⟨_, rfl, F, rfl, ⟨_, SqL.of eF⟩, fun D2 hD2 => lc_rowsT (f := prim) hD2 eF rF hFl (fun _ => rfl) (fun ad r H2 Q2 hr2 s8 e8 kq => ⟨_, rfl, .inl ⟨ad, _, rfl, SqL.of e8, fun p hp => ⟨p, r, rfl, upd_same, by rw [n2 r hr2]; exact hn, ok.d r hr2, fun q3 H3 s3 e3 => kq q3 H3 (fun b o e => s3 _ _ (same_upd0 hp _ _ e)) e3⟩⟩⟩) (fun bs8 H8 s8 e8 r8 => q D2 bs8 H8 (fun b o e => s8 _ _ (sH _ _ e)) e8 r8)⟩
end
end K01

set_option Elab.async false
set_option linter.all false
set_option maxRecDepth 100000
set_option maxHeartbeats 4000000
namespace K01
open PySem PySem.Spec PyProof.Rows L2 StX RZ MyR SlX OwnR OwnF EnumT GxR GenNx FDivQ
section
variable {P : Program} {w : World} {K : PySem.W.Frag} {mg : Str → Option Value} {base : Heap} {Ps : List Addr}
def spRank (Ps : List Addr) : Sp := fun vs H Q _ => ∃ (t : Addr) (as : List Addr) (rows : List (List Int)) (n : Nat), vs = [.ref t, .int n] ∧ (H t = some (.tup (as.map V.ref)) ∨ H t = some (.lst (as.map V.ref))) ∧ RA H as rows ∧ rows.length ≤ 100 ∧ n ≤ 100 ∧ (∀ r ∈ rows, r.length = n) ∧
  EOk less rows n ∧ Tg Ps H ∧ ∀ H', Sts Ps H H' → Tg Ps H' → Q (.int ((ech less rows n).length : Nat)) H'
theorem ok_rank_of (T : Facts K mg) (TB_first_of : TabB base mg T.c_first_of T.P_first_of) (hP : T.P_first_of ∈ Ps) : FnOk P w K mg base CX0 4 T.f_rank_of T.fd_rank_of ["rows", "width"] (spRank Ps) := by
  have G_echelon_rows := ok_echelon_rows (P := P) (w := w) (base := base) T TB_first_of hP
  refine T.F_rank_of.ok sc_rank_of (fun vs H Q E h => ?_) (fun cdv A outer s H vs Q E hr h => ?_)
  · obtain ⟨t, as, rows, n, rfl, _⟩ := h
    rfl
  · obtain ⟨t, as, rows, n, rfl, hS, hA, hl, hn, hw, ok, hG, q⟩ := h
    refine ⟨_, (PSs.nox (pss_one (ps_ret (pe_callB call_len_seq (by rfl) T.z_len (by decide +kernel) (pa_cons (pe_call G_echelon_rows hr (by rfl) T.g_echelon_rows T.F_echelon_rows.kp T.b_echelon_rows .nil pass0 (pa_cons (pv 0) (pa_cons (pv 1) pa_nil))) pa_nil))))), ?_⟩
    refine ⟨_, rfl, _, rfl, t, as, rows, n, rfl, hS, hA, hl, hn, hw, ok, hG, fun p bs H1 s1 t1 e1 r1 => ⟨p, bs.map V.ref, rfl, .inl (SqL.of e1), ?_⟩⟩
    rw [List.length_map, r1.len]
    exact q H1 s1 t1
def spLRank : Sp := fun vs H Q _ => ∃ (t : Addr) (as : List Addr) (rows : List (List Int)) (n : Nat), vs = [.ref t, .int n] ∧ (H t = some (.tup (as.map V.ref)) ∨ H t = some (.lst (as.map V.ref))) ∧ RA H as rows ∧ rows.length ≤ 100 ∧ n ≤ 100 ∧ (∀ r ∈ rows, r.length = n) ∧
  EOk lless rows n ∧ ∀ H', Same H H' → Q (.int ((ech lless rows n).length : Nat)) H'
theorem ok_law_rank (T : Facts K mg) : FnOk P w K mg base CX0 5 T.f_law_rank T.fd_law_rank ["_law_rows", "_law_width"] spLRank := by
  have G_law_cleared := ok_law_cleared (P := P) (w := w) (base := base) T
  refine T.F_law_rank.ok sc_law_rank (fun vs H Q E h => ?_) (fun cdv A outer s H vs Q E hr h => ?_)
  · obtain ⟨t, as, rows, n, rfl, _⟩ := h
    rfl
  · obtain ⟨t, as, rows, n, rfl, hS, hA, hl, hn, hw, ok, q⟩ := h
    refine ⟨_, (PSs.nox (pss_one (ps_ret (pe_callB call_len_seq (by rfl) T.z_len (by decide +kernel) (pa_cons (pe_call G_law_cleared hr (by rfl) T.g_law_cleared T.F_law_cleared.kp T.b_law_cleared .nil pass0 (pa_cons (pv 0) (pa_cons (pv 1) pa_nil))) pa_nil))))), ?_⟩
    refine ⟨_, rfl, _, rfl, t, as, rows, n, rfl, hS, hA, hl, hn, hw, ok, fun p bs H1 s1 e1 r1 => ⟨p, bs.map V.ref, rfl, .inl (SqL.of e1), ?_⟩⟩
    rw [List.length_map, RX.len r1]
    exact q H1 s1
end
end K01

set_option Elab.async false
set_option linter.all false
set_option maxRecDepth 100000
set_option maxHeartbeats 4000000
namespace K01
open PySem PySem.Spec PyProof.Rows L2 StX RZ MyR SlX OwnR OwnF EnumT GxR GenNx FDivQ
/-- the place of the first entry other than 0 -/
def ld (r : List Int) : Nat := r.findIdx (· != 0)
def nzs (r : List Int) : List Int := ((List.range r.length).filter fun i => co r i != 0).map fun (i : Nat) => (i : Int)
theorem nzs_ld {r : List Int} (h : ld r < r.length) : (nzs r)[0]? = some (ld r : Int) := by
  unfold nzs
  rw [List.getElem?_map, ← List.head?_eq_getElem?, List.head?_filter]
  have e : List.find? (fun i => co r i != 0) (List.range r.length) = some (ld r) := by
    refine List.find?_eq_some_iff_getElem.mpr ⟨?_, ld r, by rw [List.length_range]; exact h, List.getElem_range _, fun j hj => ?_⟩
    · rw [co_get h]
      exact List.findIdx_getElem (w := h)
    · rw [List.getElem_range, co_get (Nat.lt_trans hj h)]
      have := List.not_of_lt_findIdx hj
      simpa using this
  rw [e]
  rfl
section
variable {P : Program} {w : World} {K : PySem.W.Frag} {mg : Str → Option Value} {base : Heap} {Ps : List Addr}
def spLead : Sp := fun vs H Q _ => ∃ (t : Addr) (r : List Int), vs = [.ref t] ∧ H t = some (ls r) ∧ r.length ≤ 100 ∧ ld r < r.length ∧ ∀ H', Same H H' → Q (.int (ld r : Nat)) H'
theorem ok_lead_of (T : Facts K mg) : FnOk P w K mg base CX0 1 T.f_lead_of T.fd_lead_of ["row"] spLead := by
  refine T.F_lead_of.ok sc_lead_of (fun vs H Q E h => ?_) (fun cdv A outer s H vs Q E hr h => ?_)
  · obtain ⟨t, r, rfl, _⟩ := h
    rfl
  · obtain ⟨t, r, rfl, ht, hl, hlt, q⟩ := h
    refine ⟨_, (PSs.nox (pss_one (ps_ret (pe_ix ix_list (pe_lc (own := [("at", 1), ("entry", 2)]) (g := (gTup K 2 (gCons (gName 1) (gCons (gName 2) gNil)))) (by rfl) sc_lead_of.nd (pi_enum (by rfl) T.z_enumerate (pa_cons (pv 0) pa_nil)) (blkOk_by (N := N_lead_of) (sc := defScope s_lead_of) (by decide +kernel)) (fun _ _ _ _ _ => (pg_tup (by rfl) (pgs_cons (pg_name (i := 1) sc_lead_of.nd rfl (.inl rfl)) (pgs_cons (pg_name (i := 2) sc_lead_of.nd rfl (.inl rfl)) pgs_nil)))) (fun _ _ _ _ _ => (pts_one (pt_cmpR op_ne (pv 2) pe_int (nomark _)))) (fun _ _ _ _ _ => (pv 1))) pe_int (fun _ _ => rfl))))), ?_⟩
    refine ⟨_, rfl, t, _, rfl, SqL.of ht, fun D hD => ?_⟩
    refine lc_enumL (xs := r.map V.int) (fun j H3 => Same H H3 ∧ H3 D = some (.lst ((((List.range j).filter fun k => co r k != 0).map fun (k : Nat) => (k : Int)).map V.int))) ⟨same_upd0 hD, upd_same⟩ (fun j H3 _ hP => SqL.of (hP.1 _ _ ht)) (fun j x A H3 hx hP hA => ?_) (fun H3 hP => ?_)
    · obtain ⟨s3, hL⟩ := hP
      obtain ⟨hj, rfl⟩ := int_get hx
      have sA := same_upd0 (o := .tup [.int (j : Nat), .int (co r j)]) hA
      refine ⟨A, _, rfl, SqT.of upd_same, rfl, _, _, rfl, _, _, rfl, rfl, rfl, _, rfl, rfl, _, rfl, ?_⟩
      rw [List.range_succ, List.filter_append]
      by_cases d : co r j = 0
      · rw [decide_eq_true (show V.int (co r j) = V.int 0 by rw [d])]
        refine iteF ⟨fun b o e => sA _ _ (s3 _ _ e), ?_⟩
        rw [sA _ _ hL, List.filter_cons_of_neg (by rw [d]; decide), List.filter_nil, List.append_nil]
      · rw [decide_eq_false fun z => d (V.int.inj z)]
        refine iteT ⟨_, rfl, _, sA _ _ hL, ?_, fun b o e => ?_, ?_⟩
        · rw [List.length_map, List.length_map]
          have h1 := List.length_filter_le (fun k => co r k != 0) (List.range j)
          rw [List.length_range] at h1
          exact small1000 (by omega)
        · rw [upd_ne (ne_of_none e hD)]
          exact sA _ _ (s3 _ _ e)
        · rw [upd_same, List.filter_cons_of_pos (by simpa using d), List.filter_nil, List.map_append, List.map_append]
          rfl
    · obtain ⟨s3, hL⟩ := hP
      rw [List.length_map] at hL
      have hL : H3 D = some (.lst ((nzs r).map V.int)) := hL
      refine ⟨D, _, 0, .int (ld r : Nat), rfl, rfl, SqL.of hL, atI_nat (j := 0) ?_, q H3 s3⟩
      rw [List.getElem?_map, nzs_ld hlt]
      rfl
end
end K01

set_option Elab.async false
set_option linter.all false
set_option maxRecDepth 100000
set_option maxHeartbeats 2000000
/-! echelons: the plain law -/
namespace K01
open PySem PySem.Spec PyProof.Rows L2 FDivQ LA
/-! ### common divisors -/
theorem gl_iff {d : Nat} : ∀ (l : List Int) (a : Nat), d ∣ l.foldl (fun a x => Nat.gcd a x.natAbs) a ↔ d ∣ a ∧ ∀ x ∈ l, d ∣ x.natAbs
  | [], a => ⟨fun h => ⟨h, fun x hx => absurd hx List.not_mem_nil⟩, fun h => h.1⟩
  | y :: l, a => by
    rw [List.foldl_cons, gl_iff l]
    constructor
    · rintro ⟨h1, h2⟩
      refine ⟨Nat.dvd_trans h1 (Nat.gcd_dvd_left ..), fun x hx => ?_⟩
      rcases List.mem_cons.mp hx with rfl | hx
      · exact Nat.dvd_trans h1 (Nat.gcd_dvd_right ..)
      · exact h2 x hx
    · rintro ⟨h1, h2⟩
      exact ⟨Nat.dvd_gcd h1 (h2 y List.mem_cons_self), fun x hx => h2 x (List.mem_cons_of_mem _ hx)⟩
theorem gl_dvd {l : List Int} {x : Int} (h : x ∈ l) : gl l ∣ x.natAbs := ((gl_iff l 0).mp (Nat.dvd_refl _)).2 x h
theorem gl_dvdI {l : List Int} {x : Int} (h : x ∈ l) : (gl l : Int) ∣ x := Int.ofNat_dvd_left.mpr (gl_dvd h)
theorem dvd_gl {l : List Int} {d : Nat} (h : ∀ x ∈ l, d ∣ x.natAbs) : d ∣ gl l := (gl_iff l 0).mpr ⟨Nat.dvd_zero _, h⟩
theorem mem_co {l : List Int} {x : Int} (h : x ∈ l) : ∃ k, k < l.length ∧ co l k = x := by
  obtain ⟨k, hk, e⟩ := List.mem_iff_getElem.mp h
  exact ⟨k, hk, by rw [co_get hk, e]⟩
theorem dvd_glc {l : List Int} {d : Nat} (h : ∀ k, k < l.length → d ∣ (co l k).natAbs) : d ∣ gl l := dvd_gl fun x hx => by
  obtain ⟨k, hk, e⟩ := mem_co hx
  rw [← e]
  exact h k hk
theorem gl_dvdc (l : List Int) (k : Nat) : gl l ∣ (co l k).natAbs := by
  by_cases h : k < l.length
  · exact gl_dvd (co_mem h)
  · rw [co_far (by omega)]
    exact Nat.dvd_zero _
theorem gl_zero {l : List Int} (h : gl l = 0) (k : Nat) : co l k = 0 := by
  have := gl_dvdc l k
  rw [h] at this
  have := Nat.eq_zero_of_zero_dvd this
  omega
theorem co_dv (l : List Int) (c : Int) (k : Nat) : co (dv l c) k = (co l k).fdiv c := by
  by_cases h : k < l.length
  · have h2 : k < (dv l c).length := by
      unfold dv
      rw [List.length_map]
      exact h
    rw [co_get h2, co_get h]
    exact List.getElem_map ..
  · rw [co_far (l := dv l c) (by unfold dv; rw [List.length_map]; omega), co_far (by omega), Int.zero_fdiv]
/-- an exact quotient -/
theorem fdiv_ex {x c : Int} (h : c ∣ x) : c * x.fdiv c = x := Int.mul_fdiv_cancel' h
/-- a row, divided by what it shares -/
theorem dv_ex {l : List Int} (h : gl l ≠ 0) (k : Nat) : (gl l : Int) * co (dv l (gl l)) k = co l k := by
  rw [co_dv]
  exact fdiv_ex (Int.ofNat_dvd_left.mpr (gl_dvdc l k))
theorem gl_dv {l : List Int} (h : gl l ≠ 0) : gl (dv l (gl l)) = 1 := by
  have q : gl l * gl (dv l (gl l)) ∣ gl l := dvd_glc fun k _ => by
    rw [← dv_ex h k, Int.natAbs_mul, Int.natAbs_natCast]
    exact Nat.mul_dvd_mul_left _ (gl_dvdc _ _)
  have hp : 0 < gl l := Nat.pos_of_ne_zero h
  have h1 : gl (dv l (gl l)) ∣ 1 := Nat.dvd_of_mul_dvd_mul_left hp (by rw [Nat.mul_one]; exact q)
  exact Nat.dvd_one.mp h1
/-- rows that go together by factors: the one without common divisors is not greater -/
theorem red_le {w : Nat} {v : List Int} {u : Nat → Int} {α β : Int} (hv : gl v ≤ 1) (hl : v.length = w) (hα : α ≠ 0) (h : ∀ j, j < w → α * co v j = β * u j) : ∀ j, j < w → (co v j).natAbs ≤ (u j).natAbs := by
  have hn : ∀ j, j < w → α.natAbs * (co v j).natAbs = β.natAbs * (u j).natAbs := fun j hj => by
    rw [← Int.natAbs_mul, ← Int.natAbs_mul, h j hj]
  have ha : 0 < α.natAbs := by omega
  generalize α.natAbs = a at hn ha
  generalize β.natAbs = b at hn
  have hg : 0 < Nat.gcd a b := Nat.gcd_pos_of_pos_left _ ha
  obtain ⟨a', ea⟩ := Nat.gcd_dvd_left a b
  obtain ⟨b', eb⟩ := Nat.gcd_dvd_right a b
  have cop : Nat.Coprime a' b' := by
    have e1 : a' = a / Nat.gcd a b := Nat.eq_div_of_mul_eq_right (by omega) ea.symm
    have e2 : b' = b / Nat.gcd a b := Nat.eq_div_of_mul_eq_right (by omega) eb.symm
    rw [e1, e2]
    exact Nat.coprime_div_gcd_div_gcd hg
  have hn2 : ∀ j, j < w → a' * (co v j).natAbs = b' * (u j).natAbs := fun j hj => by
    refine Nat.eq_of_mul_eq_mul_left hg ?_
    rw [← Nat.mul_assoc, ← Nat.mul_assoc, ← ea, ← eb]
    exact hn j hj
  have ha' : 0 < a' := by
    rcases Nat.eq_zero_or_pos a' with z | z
    · rw [z, Nat.mul_zero] at ea
      omega
    · exact z
  have hb : b' ∣ gl v := dvd_glc fun k hk => cop.symm.dvd_of_dvd_mul_left ⟨_, hn2 k (hl ▸ hk)⟩
  intro j hj
  rcases Nat.eq_zero_or_pos (gl v) with z | z
  · rw [gl_zero z]
    exact Nat.zero_le _
  · have e1 : gl v = 1 := by omega
    rw [e1] at hb
    have e2 := Nat.dvd_one.mp hb
    have q := hn2 j hj
    rw [e2, Nat.one_mul] at q
    rw [← q]
    exact Nat.le_mul_of_pos_left _ ha'
/-! ### spans -/
abbrev row (B : List (List Int)) (k : Nat) : Nat → Int := co (B.getD k [])
/-- a row, times a number other than 0, is a sum of multiples of some rows -/
def SpM (w : Nat) (B : List (List Int)) (v : List Int) : Prop := Sp w B.length (row B) (co v)
theorem row_mem {B : List (List Int)} {x : List Int} (h : x ∈ B) : ∃ k, k < B.length ∧ row B k = co x := by
  obtain ⟨k, hk, e⟩ := List.mem_iff_getElem.mp h
  exact ⟨k, hk, by unfold row; rw [List.getD_eq_getElem?_getD, List.getElem?_eq_getElem hk, e]; rfl⟩
theorem mem_row {B : List (List Int)} {k : Nat} (h : k < B.length) : B.getD k [] ∈ B := by
  rw [List.getD_eq_getElem?_getD, List.getElem?_eq_getElem h]
  exact List.getElem_mem h
theorem SpM.own {w : Nat} {B : List (List Int)} {x : List Int} (h : x ∈ B) : SpM w B x := by
  obtain ⟨k, hk, e⟩ := row_mem h
  unfold SpM
  rw [← e]
  exact Sp.own hk
theorem SpM.trans {w : Nat} {B B' : List (List Int)} {v : List Int} (h : SpM w B v) (g : ∀ x ∈ B, SpM w B' x) : SpM w B' v :=
  Sp.trans h fun k hk => g _ (mem_row hk)
theorem SpM.mono {w : Nat} {B B' : List (List Int)} {v : List Int} (h : SpM w B v) (g : ∀ x ∈ B, x ∈ B') : SpM w B' v := h.trans fun x hx => SpM.own (g x hx)
theorem SpM.lin {w : Nat} {B : List (List Int)} {u v t : List Int} {c : Int} (α β : Int) (hc : c ≠ 0) (h : SpM w B u) (g : SpM w B v) (e : ∀ j, j < w → c * co t j = α * co u j + β * co v j) : SpM w B t :=
  Sp.div hc (Sp.lin α β h g) e
theorem SpM.zero {w : Nat} {B : List (List Int)} {v : List Int} (h : ∀ j, j < w → co v j = 0) : SpM w B v := Sp.zero h
theorem SpM.mul {w : Nat} {B : List (List Int)} {u t : List Int} {c α : Int} (hc : c ≠ 0) (h : SpM w B u) (e : ∀ j, j < w → c * co t j = α * co u j) : SpM w B t :=
  h.lin α 0 hc h fun j hj => by rw [e j hj, Int.zero_mul, Int.add_zero]
/-- rows whose span holds as many independent rows are independent -/
theorem ind_of {w n : Nat} {A B : Nat → Nat → Int} (hA : Ind w n A) (h : ∀ i, i < n → Sp w n B (A i)) : Ind w n B := fun a ha i0 hi0 => by
  refine Classical.byContradiction fun ne => ?_
  obtain ⟨m, rfl⟩ : ∃ m, n = m + 1 := ⟨n - 1, by omega⟩
  have key : ∀ k, k < m + 1 → Sp w m (fun i => B (sk i0 i)) (B k) := fun k hk => by
    by_cases c : k = i0
    · subst c
      refine ⟨a k, ne, fun i => - a (sk k i), fun j hj => ?_⟩
      have e := ha j hj
      rw [S_skip _ k m (by omega)] at e
      rw [S_congr (g := fun i => (-1) * (a (sk k i) * B (sk k i) j)) fun i _ => by rw [Int.neg_mul, Int.neg_mul, Int.one_mul], S_mul]
      omega
    · obtain ⟨i, hi, e⟩ : ∃ i, i < m ∧ sk i0 i = k := by
        by_cases d : k < i0
        · exact ⟨k, by omega, if_pos d⟩
        · exact ⟨k - 1, by omega, by unfold sk; rw [if_neg (by omega)]; omega⟩
      rw [← e]
      exact Sp.own hi
  have := steinitz hA fun i hi => (h i hi).trans key
  omega
/-- the bound -/
def Bd (R M : Nat) : Nat := R * ((2 * R * M + 1) ^ (R - 1) * M)
theorem Bd_mono {R R' M : Nat} (h : R ≤ R') : Bd R M ≤ Bd R' M := by
  unfold Bd
  refine Nat.mul_le_mul h (Nat.mul_le_mul_right _ ?_)
  refine Nat.le_trans (Nat.pow_le_pow_left (Nat.add_le_add_right (Nat.mul_le_mul_right _ (Nat.mul_le_mul_left _ h)) 1) _) ?_
  exact Nat.pow_le_pow_right (Nat.succ_pos _) (by omega)
theorem Bd_le {R M : Nat} (h : 1 ≤ R) : M ≤ Bd R M := by
  unfold Bd
  have h1 : 0 < (2 * R * M + 1) ^ (R - 1) := Nat.pow_pos (Nat.succ_pos _)
  have h2 := Nat.mul_le_mul_right M (show 1 ≤ (2 * R * M + 1) ^ (R - 1) from h1)
  have h3 := Nat.mul_le_mul_right ((2 * R * M + 1) ^ (R - 1) * M) h
  omega
/-- rows that vanish at r places, in the span of r rows and one more -/
theorem bd_left {w r M : Nat} {B : Nat → Nat → Int} {P : Nat → Nat} {v : List Int} (hl : v.length = w) (hv : gl v ≤ 1) (hM : ∀ i, i < r + 1 → ∀ j, (B i j).natAbs ≤ M) (hP : ∀ k, k < r → P k < w) (hI : Ind r r fun k j => B k (P j)) (hs : Sp w (r + 1) B (co v)) (hz : ∀ k, k < r → co v (P k) = 0) :
    ∀ j, j < w → (co v j).natAbs ≤ Bd (r + 1) M := by
  obtain ⟨y, ⟨i0, hi0, hy0⟩, hyb, hy⟩ := siegel r M (fun i k => B i (P k)) fun i hi k hk => hM i hi _
  obtain ⟨c, hc, a, ha⟩ := hs
  have yr : y r ≠ 0 := fun z => by
    have q := hI y (fun k hk => by
      have e := hy k hk
      have e : S r (fun i => y i * B i (P k)) + y r * B r (P k) = 0 := e
      rw [z, Int.zero_mul, Int.add_zero] at e
      exact e)
    by_cases d : i0 = r
    · rw [d] at hy0
      exact hy0 z
    · exact hy0 (q i0 (by omega))
  have D : ∀ j, j < w → y r * (c * co v j) - a r * S (r + 1) (fun i => y i * B i j) = S r (fun i => (y r * a i - a r * y i) * B i j) := fun j hj => by
    rw [ha j hj, ← S_mul, ← S_mul]
    have e : S r (fun i => (y r * a i - a r * y i) * B i j) = S r (fun i => y r * (a i * B i j)) + (-1) * S r (fun i => a r * (y i * B i j)) := by
      rw [← S_mul, ← S_add]
      exact S_congr fun i _ => by grind
    rw [e]
    show S r _ + y r * (a r * B r j) - (S r _ + a r * (y r * B r j)) = _
    grind
  have dz := hI (fun i => y r * a i - a r * y i) fun k hk => by
    rw [← D (P k) (hP k hk), hz k hk, hy k hk]
    rw [Int.mul_zero, Int.mul_zero, Int.mul_zero]
    rfl
  refine fun j hj => Nat.le_trans (red_le (u := fun j => S (r + 1) (fun i => y i * B i j)) (α := y r * c) (β := a r) hv hl (Int.mul_ne_zero yr hc) (fun j hj => ?_) j hj) (S_abs fun i hi => ?_)
  · have e := D j hj
    rw [S_zero (f := fun i => (y r * a i - a r * y i) * B i j) fun i hi => by rw [dz i hi, Int.zero_mul]] at e
    rw [Int.mul_assoc]
    exact Int.sub_eq_zero.mp e
  · rw [Int.natAbs_mul]
    exact Nat.mul_le_mul (hyb i) (hM i hi j)
/-- rows in the span of r rows that vanish at all places but one -/
theorem bd_found {w m M : Nat} {B : Nat → Nat → Int} {P : Nat → Nat} {v : List Int} {i0 : Nat} (hl : v.length = w) (hv : gl v ≤ 1) (hM : ∀ i, i < m + 1 → ∀ j, (B i j).natAbs ≤ M) (hP : ∀ k, k < m + 1 → P k < w) (hI : Ind (m + 1) (m + 1) fun k j => B k (P j)) (hs : Sp w (m + 1) B (co v)) (hi0 : i0 < m + 1) (hz : ∀ k, k < m + 1 → k ≠ i0 → co v (P k) = 0) :
    ∀ j, j < w → (co v j).natAbs ≤ Bd (m + 1) M := by
  obtain ⟨y, ⟨i1, hi1, hy1⟩, hyb, hy⟩ := siegel m M (fun i k => B i (P (sk i0 k))) fun i hi k hk => hM i hi _
  obtain ⟨c, hc, a, ha⟩ := hs
  have uz : ∀ k, k < m + 1 → k ≠ i0 → S (m + 1) (fun i => y i * B i (P k)) = 0 := fun k hk hne => by
    obtain ⟨i, hi, e⟩ : ∃ i, i < m ∧ sk i0 i = k := by
      by_cases d : k < i0
      · exact ⟨k, by omega, if_pos d⟩
      · exact ⟨k - 1, by omega, by unfold sk; rw [if_neg (by omega)]; omega⟩
    have := hy i hi
    rw [e] at this
    exact this
  have u0 : S (m + 1) (fun i => y i * B i (P i0)) ≠ 0 := fun z => hy1 (hI y (fun k hk => by
    by_cases d : k = i0
    · rw [d]
      exact z
    · exact uz k hk d) i1 hi1)
  generalize hU : S (m + 1) (fun i => y i * B i (P i0)) = U at u0
  have D : ∀ j, j < w → U * (c * co v j) - c * co v (P i0) * S (m + 1) (fun i => y i * B i j) = S (m + 1) (fun i => (U * a i - c * co v (P i0) * y i) * B i j) := fun j hj => by
    rw [ha j hj, ← S_mul, ← S_mul]
    have e : S (m + 1) (fun i => (U * a i - c * co v (P i0) * y i) * B i j) = S (m + 1) (fun i => U * (a i * B i j)) + (-1) * S (m + 1) (fun i => c * co v (P i0) * (y i * B i j)) := by
      rw [← S_mul, ← S_add]
      exact S_congr fun i _ => by grind
    rw [e]
    omega
  have dz := hI (fun i => U * a i - c * co v (P i0) * y i) fun k hk => by
    rw [← D (P k) (hP k hk)]
    by_cases d : k = i0
    · rw [d, hU]
      grind
    · rw [hz k hk d, uz k hk d]
      rw [Int.mul_zero, Int.mul_zero, Int.mul_zero]
      rfl
  refine fun j hj => Nat.le_trans (red_le (u := fun j => S (m + 1) (fun i => y i * B i j)) (α := U * c) (β := c * co v (P i0)) hv hl (Int.mul_ne_zero u0 hc) (fun j hj => ?_) j hj) (S_abs fun i hi => ?_)
  · have e := D j hj
    rw [S_zero (f := fun i => (U * a i - c * co v (P i0) * y i) * B i j) fun i hi => by rw [dz i hi, Int.zero_mul]] at e
    rw [Int.mul_assoc]
    exact Int.sub_eq_zero.mp e
  · rw [Int.natAbs_mul]
    exact Nat.mul_le_mul (hyb i) (hM i hi j)
end K01

set_option Elab.async false
set_option linter.all false
set_option maxRecDepth 100000
set_option maxHeartbeats 2000000
/-! echelons: what holds at each place -/
namespace K01
open PySem PySem.Spec PyProof.Rows L2 FDivQ LA
structure LeP (le : List Int → List Int → Nat → List Int) : Prop where
  lin : ∀ row head p, co head p ≠ 0 → row.length = head.length → ∃ c : Int, c ≠ 0 ∧ ∀ j, c * co (le row head p) j = co head p * co row j - co row p * co head j
  len : ∀ row head p, (le row head p).length = row.length
  red : ∀ row head p, gl (le row head p) ≤ 1 ∨ le row head p = row
theorem lf_lin {row head : List Int} {p : Nat} (h : co head p ≠ 0) (hl : row.length = head.length) (j : Nat) : ((Nat.gcd (co head p).natAbs (co row p).natAbs : Nat) : Int) * co (lf row head p) j = co head p * co row j - co row p * co head j := by
  unfold lf
  have d1 : ((Nat.gcd (co head p).natAbs (co row p).natAbs : Nat) : Int) ∣ co head p := Int.ofNat_dvd_left.mpr (Nat.gcd_dvd_left ..)
  have d2 : ((Nat.gcd (co head p).natAbs (co row p).natAbs : Nat) : Int) ∣ co row p := Int.ofNat_dvd_left.mpr (Nat.gcd_dvd_right ..)
  have e1 := fdiv_ex d1
  have e2 := fdiv_ex d2
  generalize ((Nat.gcd (co head p).natAbs (co row p).natAbs : Nat) : Int) = g at e1 e2 ⊢
  rw [co_tb]
  by_cases hj : j < row.length
  · rw [if_pos hj]
    grind
  · rw [if_neg hj, co_far (l := row) (by omega), co_far (l := head) (i := j) (by omega), Int.mul_zero, Int.mul_zero, Int.mul_zero]
    rfl
theorem gcd_ne {a b : Int} (h : a ≠ 0) : ((Nat.gcd a.natAbs b.natAbs : Nat) : Int) ≠ 0 := by
  have := Nat.gcd_pos_of_pos_left b.natAbs (show 0 < a.natAbs by omega)
  omega
theorem lless_lin {row head : List Int} {p : Nat} (h : co head p ≠ 0) (hl : row.length = head.length) : ∃ c : Int, c ≠ 0 ∧ ∀ j, c * co (lless row head p) j = co head p * co row j - co row p * co head j := by
  unfold lless
  have g0 := gcd_ne (b := co row p) h
  by_cases d : 1 < gl (lf row head p)
  · rw [if_pos d]
    refine ⟨_, Int.mul_ne_zero g0 (show ((gl (lf row head p) : Nat) : Int) ≠ 0 by omega), fun j => ?_⟩
    rw [Int.mul_assoc, dv_ex (by omega), lf_lin h hl]
  · rw [if_neg d]
    exact ⟨_, g0, lf_lin h hl⟩
theorem lless_red (row head : List Int) (p : Nat) : gl (lless row head p) ≤ 1 := by
  unfold lless
  by_cases d : 1 < gl (lf row head p)
  · rw [if_pos d, gl_dv (by omega)]
    exact Nat.le_refl _
  · rw [if_neg d]
    omega
theorem less_eq {row head : List Int} {p : Nat} (h : co row p ≠ 0) : less row head p = lless row head p := by
  unfold less lless
  rw [if_neg h]
theorem less_id {row head : List Int} {p : Nat} (h : co row p = 0) : less row head p = row := by
  unfold less
  rw [if_pos h]
theorem lePL : LeP lless := ⟨fun _ _ _ h hl => lless_lin h hl, lless_len, fun _ _ _ => .inl (lless_red ..)⟩
theorem lePP : LeP less := ⟨fun row head p h hl => by
  by_cases c : co row p = 0
  · rw [less_id c]
    exact ⟨_, h, fun j => by rw [c, Int.zero_mul, Int.sub_zero]⟩
  · rw [less_eq c]
    exact lless_lin h hl, less_len, fun row head p => by
  by_cases c : co row p = 0
  · exact .inr (less_id c)
  · rw [less_eq c]
    exact .inl (lless_red ..)⟩
structure Inv (w : Nat) (rows : List (List Int)) (p : Nat) (left found Hh : List (List Int)) (P : List Nat) : Prop where
  hr : ∀ x ∈ Hh, x ∈ rows
  hl : Hh.length = found.length
  pl : P.length = found.length
  lf : ∀ r ∈ left, ∃ x ∈ rows, SpM w (Hh ++ [x]) r
  ff : ∀ r ∈ found, SpM w Hh r
  lz : ∀ r ∈ left, ∀ j, j < p → co r j = 0
  pp : ∀ k, k < found.length → P.getD k 0 < p
  nz : ∀ k, k < found.length → row found k (P.getD k 0) ≠ 0
  z : ∀ i k, i < found.length → k < found.length → k ≠ i → row found k (P.getD i 0) = 0
  be : ∀ k, k < found.length → ∀ j, j < P.getD k 0 → row found k j = 0
  rd : ∀ r, r ∈ left ∨ r ∈ found → gl r ≤ 1 ∨ r ∈ rows
  rv : ∀ x ∈ rows, SpM w (found ++ left) x
  ll : ∀ r, r ∈ left ∨ r ∈ found → r.length = w
theorem row_app {A : List (List Int)} {x : List Int} {k : Nat} : row (A ++ [x]) k = if k < A.length then row A k else if k = A.length then co x else co [] := by
  unfold row
  rw [List.getD_eq_getElem?_getD, List.getD_eq_getElem?_getD]
  by_cases h : k < A.length
  · rw [if_pos h, List.getElem?_append_left h]
  · rw [if_neg h, List.getElem?_append_right (by omega)]
    by_cases e : k = A.length
    · rw [if_pos e, e, Nat.sub_self]
      rfl
    · rw [if_neg e, List.getElem?_eq_none (by show 1 ≤ _; omega)]
      rfl
theorem row_map {A : List (List Int)} {f : List Int → List Int} {k : Nat} (h : k < A.length) : row (A.map f) k = co (f (A.getD k [])) := by
  unfold row
  rw [List.getD_eq_getElem?_getD, List.getD_eq_getElem?_getD, List.getElem?_map, List.getElem?_eq_getElem h]
  rfl
theorem getD_app {P : List Nat} {x k : Nat} : (P ++ [x]).getD k 0 = if k < P.length then P.getD k 0 else if k = P.length then x else 0 := by
  rw [List.getD_eq_getElem?_getD, List.getD_eq_getElem?_getD]
  by_cases h : k < P.length
  · rw [if_pos h, List.getElem?_append_left h]
  · rw [if_neg h, List.getElem?_append_right (by omega)]
    by_cases e : k = P.length
    · rw [if_pos e, e, Nat.sub_self]
      rfl
    · rw [if_neg e, List.getElem?_eq_none (by show 1 ≤ _; omega)]
      rfl
theorem hix_some {left : List (List Int)} {p h : Nat} (e : hix left p = some h) : h < left.length ∧ co (left.getD h []) p ≠ 0 := by
  obtain ⟨hh, h1, _⟩ := List.findIdx?_eq_some_iff_getElem.mp e
  refine ⟨hh, ?_⟩
  rw [List.getD_eq_getElem?_getD, List.getElem?_eq_getElem hh]
  show co left[h] p ≠ 0
  simpa using h1
theorem hix_none {left : List (List Int)} {p : Nat} (e : hix left p = none) : ∀ r ∈ left, co r p = 0 := fun r hr => by
  have := List.findIdx?_eq_none_iff.mp e r hr
  simpa using this
theorem Inv.init {w : Nat} {rows : List (List Int)} (hw : ∀ r ∈ rows, r.length = w) : Inv w rows 0 rows [] [] [] :=
  ⟨fun x hx => absurd hx List.not_mem_nil, rfl, rfl, fun r hr => ⟨r, hr, SpM.own (by simp)⟩, fun r hr => absurd hr List.not_mem_nil, fun r _ j hj => absurd hj (Nat.not_lt_zero _), fun k hk => absurd hk (Nat.not_lt_zero _), fun k hk => absurd hk (Nat.not_lt_zero _), fun i k hi => absurd hi (Nat.not_lt_zero _), fun k hk => absurd hk (Nat.not_lt_zero _), fun r hr => .inr (hr.resolve_right List.not_mem_nil), fun x hx => SpM.own (by simpa using hx), fun r hr => hw r (hr.resolve_right List.not_mem_nil)⟩
theorem Inv.none {w p : Nat} {rows left found Hh : List (List Int)} {P : List Nat} (I : Inv w rows p left found Hh P) (e : hix left p = none) : Inv w rows (p + 1) left found Hh P :=
  ⟨I.hr, I.hl, I.pl, I.lf, I.ff, fun r hr j hj => by
    by_cases c : j = p
    · rw [c]
      exact hix_none e r hr
    · exact I.lz r hr j (by omega), fun k hk => Nat.lt_succ_of_lt (I.pp k hk), I.nz, I.z, I.be, I.rd, I.rv, I.ll⟩
theorem Inv.some {le : List Int → List Int → Nat → List Int} (hle : LeP le) {w p h : Nat} {rows left found Hh : List (List Int)} {P : List Nat} (I : Inv w rows p left found Hh P) (hp : p < w) (e : hix left p = .some h) :
    ∃ x, Inv w rows (p + 1) ((left.eraseIdx h).map fun r => le r (left.getD h []) p) ((found.map fun r => le r (left.getD h []) p) ++ [left.getD h []]) (Hh ++ [x]) (P ++ [p]) := by
  obtain ⟨hh, hd⟩ := hix_some e
  have hm : left.getD h [] ∈ left := mem_row hh
  generalize hH : left.getD h [] = hed at hd hm
  obtain ⟨x, hx, hs⟩ := I.lf hed hm
  have hlen := I.ll hed (.inl hm)
  have sub : ∀ r ∈ left.eraseIdx h, r ∈ left := fun r hr => List.mem_of_mem_eraseIdx hr
  have lin : ∀ r, r ∈ left ∨ r ∈ found → ∃ c : Int, c ≠ 0 ∧ ∀ j, c * co (le r hed p) j = co hed p * co r j - co r p * co hed j := fun r hr => hle.lin r hed p hd (by rw [I.ll r hr, hlen])
  have van : ∀ r, r ∈ left ∨ r ∈ found → ∀ j, co r j = 0 → co hed j = 0 → co (le r hed p) j = 0 := fun r hr j h1 h2 => by
    obtain ⟨c, hc, q⟩ := lin r hr
    have := q j
    rw [h1, h2, Int.mul_zero, Int.mul_zero] at this
    exact (Int.mul_eq_zero.mp this).resolve_left hc
  have vanp : ∀ r, r ∈ left ∨ r ∈ found → co (le r hed p) p = 0 := fun r hr => by
    obtain ⟨c, hc, q⟩ := lin r hr
    have := q p
    rw [Int.mul_comm (co hed p), Int.sub_self] at this
    · exact (Int.mul_eq_zero.mp this).resolve_left hc
  have keep : ∀ r, r ∈ left ∨ r ∈ found → ∀ j, co r j ≠ 0 → co hed j = 0 → co (le r hed p) j ≠ 0 := fun r hr j h1 h2 z => by
    obtain ⟨c, hc, q⟩ := lin r hr
    have := q j
    rw [z, h2, Int.mul_zero, Int.mul_zero, Int.sub_zero] at this
    rcases Int.mul_eq_zero.mp this.symm with z | z
    · exact hd z
    · exact h1 z
  have hz : ∀ j, j < p → co hed j = 0 := I.lz hed hm
  have fl : (found.map fun r => le r hed p).length = found.length := List.length_map ..
  have rw1 : ∀ k, k < found.length → row ((found.map fun r => le r hed p) ++ [hed]) k = co (le (found.getD k []) hed p) := fun k hk => by
    rw [row_app, fl, if_pos hk, row_map hk]
  have rw2 : row ((found.map fun r => le r hed p) ++ [hed]) found.length = co hed := by
    rw [row_app, fl, if_neg (Nat.lt_irrefl _), if_pos rfl]
  have pw1 : ∀ k, k < found.length → (P ++ [p]).getD k 0 = P.getD k 0 := fun k hk => by rw [getD_app, I.pl, if_pos hk]
  have pw2 : (P ++ [p]).getD found.length 0 = p := by rw [getD_app, I.pl, if_neg (Nat.lt_irrefl _), if_pos rfl]
  have nl : ((found.map fun r => le r hed p) ++ [hed]).length = found.length + 1 := by
    rw [List.length_append, fl]
    rfl
  refine ⟨x, fun y hy => ?_, ?_, ?_, fun r hr => ?_, fun r hr => ?_, fun r hr j hj => ?_, fun k hk => ?_, fun k hk => ?_, fun i k hi hk hne => ?_, fun k hk j hj => ?_, fun r hr => ?_, fun y hy => ?_, fun r hr => ?_⟩
  · rcases List.mem_append.mp hy with hy | hy
    · exact I.hr y hy
    · rw [List.mem_singleton.mp hy]
      exact hx
  · rw [List.length_append, List.length_append, fl, I.hl]
    rfl
  · rw [List.length_append, List.length_append, fl, I.pl]
    rfl
  · obtain ⟨r0, hr0, rfl⟩ := List.mem_map.mp hr
    obtain ⟨y, hy, hs2⟩ := I.lf r0 (sub r0 hr0)
    obtain ⟨c, hc, q⟩ := lin r0 (.inl (sub r0 hr0))
    refine ⟨y, hy, SpM.lin (co hed p) (- co r0 p) hc (hs2.mono fun z hz => ?_) (hs.mono fun z hz => ?_) fun j _ => by rw [q j, Int.neg_mul, Int.sub_eq_add_neg]⟩
    · simp only [List.mem_append, List.mem_singleton] at hz ⊢
      rcases hz with hz | hz
      · exact .inl (.inl hz)
      · exact .inr hz
    · exact List.mem_append.mpr (.inl hz)
  · rcases List.mem_append.mp hr with hr | hr
    · obtain ⟨r0, hr0, rfl⟩ := List.mem_map.mp hr
      obtain ⟨c, hc, q⟩ := lin r0 (.inr hr0)
      exact SpM.lin (co hed p) (- co r0 p) hc ((I.ff r0 hr0).mono fun z hz => List.mem_append.mpr (.inl hz)) hs fun j _ => by rw [q j, Int.neg_mul, Int.sub_eq_add_neg]
    · rw [List.mem_singleton.mp hr]
      exact hs
  · obtain ⟨r0, hr0, rfl⟩ := List.mem_map.mp hr
    by_cases c : j = p
    · rw [c]
      exact vanp r0 (.inl (sub r0 hr0))
    · exact van r0 (.inl (sub r0 hr0)) j (I.lz r0 (sub r0 hr0) j (by omega)) (hz j (by omega))
  · rw [nl] at hk
    by_cases c : k = found.length
    · rw [c, pw2]
      exact Nat.lt_succ_self _
    · rw [pw1 k (by omega)]
      exact Nat.lt_succ_of_lt (I.pp k (by omega))
  · rw [nl] at hk
    by_cases c : k = found.length
    · rw [c, pw2, rw2]
      exact hd
    · have hk : k < found.length := by omega
      rw [pw1 k hk, rw1 k hk]
      exact keep _ (.inr (mem_row hk)) _ (I.nz k hk) (hz _ (I.pp k hk))
  · rw [nl] at hi hk
    by_cases c : k = found.length
    · have hi : i < found.length := by omega
      rw [c, rw2, pw1 i hi]
      exact hz _ (I.pp i hi)
    · have hk : k < found.length := by omega
      rw [rw1 k hk]
      by_cases d : i = found.length
      · rw [d, pw2]
        exact vanp _ (.inr (mem_row hk))
      · have hi : i < found.length := by omega
        rw [pw1 i hi]
        exact van _ (.inr (mem_row hk)) _ (I.z i k hi hk hne) (hz _ (I.pp i hi))
  · rw [nl] at hk
    by_cases c : k = found.length
    · rw [c, pw2] at hj
      rw [c, rw2]
      exact hz j hj
    · have hk : k < found.length := by omega
      rw [pw1 k hk] at hj
      rw [rw1 k hk]
      exact van _ (.inr (mem_row hk)) _ (I.be k hk j hj) (hz j (Nat.lt_trans hj (I.pp k hk)))
  · have key : ∀ r0, r0 ∈ left ∨ r0 ∈ found → gl (le r0 hed p) ≤ 1 ∨ le r0 hed p ∈ rows := fun r0 h0 => by
      rcases hle.red r0 hed p with g | g
      · exact .inl g
      · rw [g]
        exact I.rd r0 h0
    rcases hr with hr | hr
    · obtain ⟨r0, hr0, rfl⟩ := List.mem_map.mp hr
      exact key r0 (.inl (sub r0 hr0))
    · rcases List.mem_append.mp hr with hr | hr
      · obtain ⟨r0, hr0, rfl⟩ := List.mem_map.mp hr
        exact key r0 (.inr hr0)
      · rw [List.mem_singleton.mp hr]
        exact I.rd hed (.inl hm)
  · refine (I.rv y hy).trans fun r hr => ?_
    have hin : SpM w (((found.map fun r => le r hed p) ++ [hed]) ++ ((left.eraseIdx h).map fun r => le r hed p)) hed := SpM.own (by simp)
    have back : ∀ r0, r0 ∈ left ∨ r0 ∈ found → le r0 hed p ∈ ((found.map fun r => le r hed p) ++ [hed]) ++ ((left.eraseIdx h).map fun r => le r hed p) → SpM w (((found.map fun r => le r hed p) ++ [hed]) ++ ((left.eraseIdx h).map fun r => le r hed p)) r0 := fun r0 h0 hm0 => by
      obtain ⟨c, hc, q⟩ := lin r0 h0
      exact SpM.lin c (co r0 p) hd (SpM.own hm0) hin fun j _ => by rw [q j]; omega
    rcases List.mem_append.mp hr with hr | hr
    · exact back r (.inr hr) (List.mem_append.mpr (.inl (List.mem_append.mpr (.inl (List.mem_map.mpr ⟨r, hr, rfl⟩)))))
    · obtain ⟨i, hi, ei⟩ := List.mem_iff_getElem.mp hr
      by_cases c : i = h
      · have : r = hed := by
          rw [← ei, ← hH, List.getD_eq_getElem?_getD]
          subst c
          rw [List.getElem?_eq_getElem hi]
          rfl
        rw [this]
        exact hin
      · exact back r (.inl hr) (List.mem_append.mpr (.inr (List.mem_map.mpr ⟨r, List.mem_eraseIdx_iff_getElem.mpr ⟨i, hi, c, ei⟩, rfl⟩)))
  · have key : ∀ r0, r0 ∈ left ∨ r0 ∈ found → (le r0 hed p).length = w := fun r0 h0 => by
      rw [hle.len]
      exact I.ll r0 h0
    rcases hr with hr | hr
    · obtain ⟨r0, hr0, rfl⟩ := List.mem_map.mp hr
      exact key r0 (.inl (sub r0 hr0))
    · rcases List.mem_append.mp hr with hr | hr
      · obtain ⟨r0, hr0, rfl⟩ := List.mem_map.mp hr
        exact key r0 (.inr hr0)
      · rw [List.mem_singleton.mp hr]
        exact hlen
theorem inv {le : List Int → List Int → Nat → List Int} (hle : LeP le) {w : Nat} {rows : List (List Int)} (hw : ∀ r ∈ rows, r.length = w) : ∀ p, p ≤ w → ∃ Hh P, Inv w rows p (eS le rows p).1 (eS le rows p).2 Hh P
  | 0, _ => ⟨[], [], Inv.init hw⟩
  | p + 1, hp => by
    obtain ⟨Hh, P, I⟩ := inv hle hw p (by omega)
    show ∃ Hh P, Inv w rows (p + 1) (stp le p (eS le rows p)).1 (stp le p (eS le rows p)).2 Hh P
    cases e : hix (eS le rows p).1 p with
    | none =>
      rw [stp_none e]
      exact ⟨Hh, P, I.none e⟩
    | some h =>
      rw [stp_some e]
      obtain ⟨x, J⟩ := I.some hle (by omega) e
      exact ⟨_, _, J⟩
/-- heads are independent at their places -/
theorem Inv.ind {w p : Nat} {rows left found Hh : List (List Int)} {P : List Nat} (I : Inv w rows p left found Hh P) (hp : p ≤ w) : Ind found.length found.length fun k j => row Hh k (P.getD j 0) := by
  refine ind_of (A := fun k j => row found k (P.getD j 0)) ?_ fun i hi => ?_
  · exact Ech.ind (lead := fun i => i) ⟨fun i hi => hi, fun i hi => I.nz i hi, fun i k hi hk hne => I.z i k hi hk hne⟩
  · obtain ⟨c, hc, a, ha⟩ := I.ff _ (mem_row hi)
    rw [I.hl] at ha
    exact ⟨c, hc, a, fun j hj => ha _ (Nat.lt_of_lt_of_le (I.pp j hj) hp)⟩
theorem co_bd {rows : List (List Int)} {M : Nat} (hM : ∀ r ∈ rows, ∀ x ∈ r, x.natAbs ≤ M) {r : List Int} (hr : r ∈ rows) (j : Nat) : (co r j).natAbs ≤ M := by
  by_cases h : j < r.length
  · exact hM r hr _ (co_mem h)
  · rw [co_far (by omega)]
    exact Nat.zero_le _
theorem Inv.bd {w p M : Nat} {rows left found Hh : List (List Int)} {P : List Nat} (I : Inv w rows p left found Hh P) (hp : p ≤ w) (hM : ∀ r ∈ rows, ∀ x ∈ r, x.natAbs ≤ M) (hc : left.length + found.length = rows.length) :
    ∀ r, r ∈ left ∨ r ∈ found → ∀ j, (co r j).natAbs ≤ Bd rows.length M := fun r hr j => by
  by_cases hj : j < w
  · rcases I.rd r hr with hv | hv
    · rcases hr with hr | hr
      · obtain ⟨x, hx, hs⟩ := I.lf r hr
        have hp1 := List.length_pos_of_mem hr
        refine Nat.le_trans (bd_left (r := found.length) (B := row (Hh ++ [x])) (P := fun k => P.getD k 0) (I.ll r (.inl hr)) hv (fun i hi j => ?_) (fun k hk => Nat.lt_of_lt_of_le (I.pp k hk) hp) (fun a ha => I.ind hp a fun k hk => ?_) ?_ (fun k hk => I.lz r hr _ (I.pp k hk)) j hj) (Bd_mono (by omega))
        · rw [row_app, I.hl]
          by_cases c : i < found.length
          · rw [if_pos c]
            exact co_bd hM (I.hr _ (mem_row (by rw [I.hl]; exact c))) j
          · rw [if_neg c, if_pos (by omega)]
            exact co_bd hM hx j
        · rw [← ha k hk]
          exact S_congr fun i hi => by
            show _ = a i * row (Hh ++ [x]) i (P.getD k 0)
            rw [row_app, I.hl, if_pos hi]
        · unfold SpM at hs
          rw [List.length_append, I.hl] at hs
          exact hs
      · obtain ⟨i0, hi0, e⟩ := row_mem hr
        obtain ⟨m, hm⟩ : ∃ m, found.length = m + 1 := ⟨found.length - 1, by omega⟩
        have hI := I.ind hp
        have hs := I.ff r hr
        unfold SpM at hs
        rw [I.hl] at hs
        rw [hm] at hI hs hi0
        refine Nat.le_trans (bd_found (B := row Hh) (P := fun k => P.getD k 0) (i0 := i0) (I.ll r (.inr hr)) hv (fun i hi j => co_bd hM (I.hr _ (mem_row (by rw [I.hl, hm]; exact hi))) j) (fun k hk => Nat.lt_of_lt_of_le (I.pp k (by omega)) hp) hI hs hi0 (fun k hk hne => ?_) j hj) (Bd_mono (by omega))
        rw [← e]
        exact I.z k i0 (by omega) (by omega) (Ne.symm hne)
    · exact Nat.le_trans (co_bd hM hv j) (Bd_le (List.length_pos_of_mem hv))
  · rw [co_far (by rw [I.ll r hr]; omega)]
    exact Nat.zero_le _
end K01

set_option Elab.async false
set_option linter.all false
set_option maxRecDepth 100000
set_option maxHeartbeats 2000000
/-! echelons: sizes, program's and law's, bases -/
namespace K01
open PySem PySem.Spec PyProof.Rows L2 FDivQ LA
theorem quot_le {c q x : Int} (h : c * q = x) (hc : c ≠ 0) : q.natAbs ≤ x.natAbs := by
  rw [← h, Int.natAbs_mul]
  exact Nat.le_mul_of_pos_left _ (by omega)
theorem cdiv_of {x c : Int} (hc : c ≠ 0) (hd : c ∣ x) (hb : x.natAbs < 2 ^ 4470) : CDivQ x c := by
  have e := fdiv_ex hd
  refine CDivQ.exact hc (q := x.fdiv c) (by rw [Int.mul_comm]; exact e.symm) ?_
  have := quot_le e hc
  generalize 2 ^ 4470 = Z at hb ⊢
  omega
theorem log_lt {n k : Nat} (h : n < 2 ^ k) (hk : 0 < k) : n.log2 < k := by
  by_cases h0 : n = 0
  · rw [h0, Nat.log2_zero]
    exact hk
  · exact (Nat.log2_lt h0).mpr h
theorem cmul_of {a b : Int} (h1 : a.natAbs < 2 ^ 4470) (h2 : b.natAbs < 2 ^ 4470) : CMulW a b := by
  have := log_lt h1 (by decide)
  have := log_lt h2 (by decide)
  unfold CMulW
  omega
theorem divOk_of {l : List Int} (h : ∀ j, (co l j).natAbs < 2 ^ 4470) : DivOk l := fun h0 x hx => by
  obtain ⟨k, _, e⟩ := mem_co hx
  refine cdiv_of (by omega) (gl_dvdI hx) ?_
  rw [← e]
  exact h k
theorem lessOk_of {r hd : List Int} {p : Nat} (hp : co hd p ≠ 0) (hl : r.length = hd.length) (h1 : ∀ j, (co r j).natAbs < 2 ^ 4470) (h2 : ∀ j, (co hd j).natAbs < 2 ^ 4470) (h3 : co r p ≠ 0 → ∀ j, (co (lless r hd p) j).natAbs < 2 ^ 4470) : LessOk r hd p := by
  have g0 := gcd_ne (b := co r p) hp
  have d1 : ((Nat.gcd (co hd p).natAbs (co r p).natAbs : Nat) : Int) ∣ co hd p := Int.ofNat_dvd_left.mpr (Nat.gcd_dvd_left ..)
  have d2 : ((Nat.gcd (co hd p).natAbs (co r p).natAbs : Nat) : Int) ∣ co r p := Int.ofNat_dvd_left.mpr (Nat.gcd_dvd_right ..)
  have q1 := quot_le (fdiv_ex d1) g0
  have q2 := quot_le (fdiv_ex d2) g0
  refine ⟨cdiv_of g0 d1 (h2 p), cdiv_of g0 d2 (h1 p), fun k _ => cmul_of (h1 k) (Nat.lt_of_le_of_lt q1 (h2 p)), fun k _ => cmul_of (Nat.lt_of_le_of_lt q2 (h1 p)) (h2 k), ?_⟩
  by_cases c : co r p = 0
  · refine divOk_of fun j => ?_
    have e := lf_lin (row := r) hp hl j
    rw [c, Int.zero_mul, Int.sub_zero] at e
    have e2 : (Nat.gcd (co hd p).natAbs (0 : Int).natAbs) = (co hd p).natAbs := Nat.gcd_zero_right _
    rw [e2] at e
    have e3 : (co hd p).natAbs * (co (lf r hd p) j).natAbs = (co hd p).natAbs * (co r j).natAbs := by
      have := congrArg Int.natAbs e
      rwa [Int.natAbs_mul, Int.natAbs_mul, Int.natAbs_natCast] at this
    rw [Nat.eq_of_mul_eq_mul_left (by omega) e3]
    exact h1 j
  · intro h0 x hx
    obtain ⟨k, _, e⟩ := mem_co hx
    have q := h3 c k
    unfold lless at q
    by_cases d : 1 < gl (lf r hd p)
    · rw [if_pos d] at q
      have e1 := dv_ex h0 k
      rw [e] at e1
      exact CDivQ.exact (q := co (dv (lf r hd p) (gl (lf r hd p))) k) (by omega) (by rw [Int.mul_comm]; exact e1.symm) q
    · rw [if_neg d, e] at q
      exact cdiv_of (by omega) (gl_dvdI hx) q
theorem eok {le : List Int → List Int → Nat → List Int} (hle : LeP le) (hl2 : ∀ r hd p, co r p ≠ 0 → le r hd p = lless r hd p) {w M : Nat} {rows : List (List Int)} (hw : ∀ r ∈ rows, r.length = w) (hM : ∀ r ∈ rows, ∀ x ∈ r, x.natAbs ≤ M) (hb : Bd rows.length M < 2 ^ 4470) : EOk le rows w := by
  have bd : ∀ p, p ≤ w → ∀ r, r ∈ (eS le rows p).1 ∨ r ∈ (eS le rows p).2 → ∀ j, (co r j).natAbs < 2 ^ 4470 := fun p hp r hr j => by
    obtain ⟨Hh, P, I⟩ := inv hle hw p hp
    exact Nat.lt_of_le_of_lt (I.bd hp hM (eS_cnt le rows p) r hr j) hb
  refine ⟨fun r hr => divOk_of (bd w (Nat.le_refl _) r (.inr hr)), fun p hp h e r hr => ?_⟩
  obtain ⟨hh, hd⟩ := hix_some e
  obtain ⟨Hh, P, I⟩ := inv hle hw p (by omega)
  have hm := mem_row hh
  have hr1 : r ∈ (eS le rows p).1 ∨ r ∈ (eS le rows p).2 := hr.imp List.mem_of_mem_eraseIdx id
  refine lessOk_of hd (by rw [I.ll r hr1, I.ll _ (.inl hm)]) (bd p (by omega) r hr1) (bd p (by omega) _ (.inl hm)) fun c => ?_
  rw [← hl2 _ _ _ c]
  refine bd (p + 1) hp _ ?_
  show _ ∈ (stp le p (eS le rows p)).1 ∨ _ ∈ (stp le p (eS le rows p)).2
  rw [stp_some e]
  rcases hr with hr | hr
  · exact .inl (List.mem_map.mpr ⟨r, hr, rfl⟩)
  · exact .inr (List.mem_append.mpr (.inl (List.mem_map.mpr ⟨r, hr, rfl⟩)))
theorem eokP {w M : Nat} {rows : List (List Int)} (hw : ∀ r ∈ rows, r.length = w) (hM : ∀ r ∈ rows, ∀ x ∈ r, x.natAbs ≤ M) (hb : Bd rows.length M < 2 ^ 4470) : EOk less rows w := eok lePP (fun _ _ _ c => less_eq c) hw hM hb
theorem eokL {w M : Nat} {rows : List (List Int)} (hw : ∀ r ∈ rows, r.length = w) (hM : ∀ r ∈ rows, ∀ x ∈ r, x.natAbs ≤ M) (hb : Bd rows.length M < 2 ^ 4470) : EOk lless rows w := eok lePL (fun _ _ _ _ => rfl) hw hM hb
/-! ### the plain multiple of a row -/
theorem gl_mul (c : Int) : ∀ (l : List Int) (a : Nat), (l.map (c * ·)).foldl (fun a x => Nat.gcd a x.natAbs) (c.natAbs * a) = c.natAbs * l.foldl (fun a x => Nat.gcd a x.natAbs) a
  | [], _ => rfl
  | x :: l, a => by
    rw [List.map_cons, List.foldl_cons, List.foldl_cons, Int.natAbs_mul, Nat.gcd_mul_left]
    exact gl_mul c l _
theorem gl_scale (c : Int) (l : List Int) : gl (l.map (c * ·)) = c.natAbs * gl l := gl_mul c l 0
theorem co_scale (c : Int) (l : List Int) (j : Nat) : co (l.map (c * ·)) j = c * co l j := by
  by_cases h : j < l.length
  · rw [co_get (by rw [List.length_map]; exact h), co_get h, List.getElem_map]
  · rw [co_far (by rw [List.length_map]; omega), co_far (by omega), Int.mul_zero]
theorem gl0_of {l : List Int} (h : ∀ j, co l j = 0) : gl l = 0 := Nat.eq_zero_of_zero_dvd (dvd_glc fun k _ => by rw [h k]; exact Nat.dvd_refl _)
theorem ld_char {l : List Int} {k : Nat} (h : co l k ≠ 0) (hz : ∀ j, j < k → co l j = 0) : ld l = k := by
  have hk : k < l.length := by
    refine Classical.byContradiction fun c => h (co_far (by omega))
  unfold ld
  refine (List.findIdx_eq hk).mpr ⟨?_, fun j hj => ?_⟩
  · rw [← co_get hk]
    simpa using h
  · have := hz j hj
    rw [co_get (by omega)] at this
    simpa using this
theorem fo_ld : ∀ {l : List Int}, (∃ k, co l k ≠ 0) → fo l = co l (ld l) ∧ co l (ld l) ≠ 0 ∧ ∀ j, j < ld l → co l j = 0
  | [], ⟨k, h⟩ => absurd (co_far (Nat.zero_le _)) h
  | x :: l, ⟨k, h⟩ => by
    by_cases c : x = 0
    · have hk : ∃ k, co l k ≠ 0 := by
        cases k with
        | zero => exact absurd c h
        | succ k => exact ⟨k, h⟩
      obtain ⟨h1, h2, h3⟩ := fo_ld hk
      have e1 : fo (x :: l) = fo l := by
        unfold fo
        rw [List.find?_cons_of_neg (by simp [c])]
      have e2 : ld (x :: l) = ld l + 1 := ld_char (l := x :: l) (k := ld l + 1) h2 fun j hj => by
        cases j with
        | zero => exact c
        | succ j => exact h3 j (by omega)
      rw [e1, e2]
      refine ⟨h1, h2, fun j hj => ?_⟩
      cases j with
      | zero => exact c
      | succ j => exact h3 j (by omega)
    · have e1 : fo (x :: l) = x := by
        unfold fo
        rw [List.find?_cons_of_pos (by simp [c])]
        rfl
      have e2 : ld (x :: l) = 0 := ld_char (l := x :: l) (k := 0) c fun j hj => absurd hj (Nat.not_lt_zero _)
      rw [e1, e2]
      exact ⟨rfl, c, fun j hj => absurd hj (Nat.not_lt_zero _)⟩
/-- the number by which the plain row is multiplied -/
def pf (l : List Int) : Int := if gl l = 0 then 1 else if 0 < fo l then (gl l : Int) else -(gl l : Int)
theorem pf_ne (l : List Int) : pf l ≠ 0 := by
  unfold pf
  split
  · decide
  · split <;> omega
theorem prim_ex (l : List Int) (j : Nat) : pf l * co (prim l) j = co l j := by
  unfold pf prim
  by_cases c : gl l = 0
  · rw [if_pos c, if_pos c, Int.one_mul]
  · rw [if_neg c, if_neg c, co_dv]
    refine fdiv_ex ?_
    have := Int.ofNat_dvd_left.mpr (gl_dvdc l j)
    split
    · exact this
    · exact Int.neg_dvd.mpr this
theorem prim_le (l : List Int) (j : Nat) : (co (prim l) j).natAbs ≤ (co l j).natAbs := quot_le (prim_ex l j) (pf_ne l)
def Pq (w : Nat) (r r' : List Int) : Prop := r.length = w ∧ r'.length = w ∧ ∃ α β : Int, α ≠ 0 ∧ β ≠ 0 ∧ ∀ j, α * co r j = β * co r' j
theorem Pq.zero {w : Nat} {r r' : List Int} (h : Pq w r r') (j : Nat) : co r j = 0 ↔ co r' j = 0 := by
  obtain ⟨_, _, α, β, ha, hb, e⟩ := h
  have := e j
  constructor <;> intro z <;> rw [z, Int.mul_zero] at this
  · exact (Int.mul_eq_zero.mp this.symm).resolve_left hb
  · exact (Int.mul_eq_zero.mp this).resolve_left ha
theorem sq_pos {a : Int} (h : a ≠ 0) : 0 < a * a := by
  rcases Int.lt_or_gt_of_ne h with z | z
  · exact Int.mul_pos_of_neg_of_neg z z
  · exact Int.mul_pos z z
theorem prim_pq {w : Nat} {r r' : List Int} (h : Pq w r r') : prim r = prim r' := by
  have hz := h.zero
  obtain ⟨hl, hl', α, β, ha, hb, e⟩ := h
  by_cases c : gl r = 0
  · have c' : gl r' = 0 := gl0_of fun j => (hz j).mp (gl_zero c j)
    unfold prim
    rw [if_pos c, if_pos c']
    exact co_inj (hl.trans hl'.symm) fun j => by rw [gl_zero c j, gl_zero c' j]
  · have c' : gl r' ≠ 0 := fun z => c (gl0_of fun j => (hz j).mpr (gl_zero z j))
    have ex : ∀ l : List Int, gl l ≠ 0 → ∃ k, co l k ≠ 0 := fun l hl => Classical.byContradiction fun z => hl (gl0_of fun j => Classical.byContradiction fun q => z ⟨j, q⟩)
    obtain ⟨f1, f2, f3⟩ := fo_ld (ex r c)
    obtain ⟨g1, g2, g3⟩ := fo_ld (ex r' c')
    have el : ld r' = ld r := ld_char (fun z => f2 ((hz _).mpr z)) fun j hj => (hz j).mp (f3 j hj)
    have e0 : α * fo r = β * fo r' := by rw [f1, g1, el]; exact e _
    have eg : α.natAbs * gl r = β.natAbs * gl r' := by
      rw [← gl_scale, ← gl_scale]
      refine congrArg gl (co_inj (by rw [List.length_map, List.length_map, hl, hl']) fun j => ?_)
      rw [co_scale, co_scale]
      exact e j
    have s1 : 0 < pf r * fo r := by
      unfold pf
      rw [if_neg c]
      split
      · exact Int.mul_pos (by omega) ‹_›
      · exact Int.mul_pos_of_neg_of_neg (by omega) (by omega)
    have s2 : 0 < pf r' * fo r' := by
      unfold pf
      rw [if_neg c']
      split
      · exact Int.mul_pos (by omega) ‹_›
      · exact Int.mul_pos_of_neg_of_neg (by omega) (by omega)
    have n1 : (α * pf r).natAbs = (β * pf r').natAbs := by
      have q : ∀ l, gl l ≠ 0 → (pf l).natAbs = gl l := fun l hl => by
        unfold pf
        rw [if_neg hl]
        split <;> omega
      rw [Int.natAbs_mul, Int.natAbs_mul, q r c, q r' c', eg]
    have z0 : α * fo r ≠ 0 := Int.mul_ne_zero ha (by omega)
    have t1 : 0 < α * pf r * (α * fo r) := by
      have : α * pf r * (α * fo r) = α * α * (pf r * fo r) := by grind
      rw [this]
      exact Int.mul_pos (sq_pos ha) s1
    have t2 : 0 < β * pf r' * (α * fo r) := by
      rw [e0]
      have : β * pf r' * (β * fo r') = β * β * (pf r' * fo r') := by grind
      rw [this]
      exact Int.mul_pos (sq_pos hb) s2
    have key : α * pf r = β * pf r' := by
      rcases Int.natAbs_eq_natAbs_iff.mp n1 with q | q
      · exact q
      · exfalso
        rw [q, Int.neg_mul] at t1
        omega
    refine co_inj (by rw [prim_len, prim_len, hl, hl']) fun j => ?_
    have a1 := prim_ex r j
    have a2 := prim_ex r' j
    have q : α * pf r * co (prim r) j = α * pf r * co (prim r') j := by
      rw [Int.mul_assoc, a1, e j, ← a2, ← Int.mul_assoc, key]
    exact Int.eq_of_mul_eq_mul_left (Int.mul_ne_zero ha (pf_ne r)) q
/-! ### the program's echelon is the law's -/
def PL (w : Nat) : List (List Int) → List (List Int) → Prop
  | [], [] => True
  | a :: as, b :: bs => Pq w a b ∧ PL w as bs
  | _, _ => False
theorem PL.hix {w p : Nat} : ∀ {A B : List (List Int)}, PL w A B → hix A p = hix B p
  | [], [], _ => rfl
  | a :: as, b :: bs, h => by
    have ih := PL.hix (p := p) h.2
    unfold K01.hix at ih ⊢
    rw [List.findIdx?_cons, List.findIdx?_cons, ih]
    have : (co a p != 0) = (co b p != 0) := by
      by_cases c : co a p = 0
      · rw [c, (h.1.zero p).mp c]
      · have c2 : co b p ≠ 0 := fun z => c ((h.1.zero p).mpr z)
        rw [bne_iff_ne.mpr c, bne_iff_ne.mpr c2]
    rw [this]
theorem PL.get {w : Nat} : ∀ {A B : List (List Int)} {k : Nat}, PL w A B → k < A.length → Pq w (A.getD k []) (B.getD k [])
  | [], [], _, _, hk => absurd hk (Nat.not_lt_zero _)
  | a :: as, b :: bs, 0, h, _ => h.1
  | a :: as, b :: bs, k + 1, h, hk => PL.get (k := k) h.2 (Nat.lt_of_succ_lt_succ hk)
theorem PL.erase {w : Nat} : ∀ {A B : List (List Int)} (k : Nat), PL w A B → PL w (A.eraseIdx k) (B.eraseIdx k)
  | [], [], _, _ => True.intro
  | a :: as, b :: bs, 0, h => h.2
  | a :: as, b :: bs, k + 1, h => ⟨h.1, PL.erase k h.2⟩
theorem PL.map {w : Nat} {f g : List Int → List Int} (hf : ∀ a b, Pq w a b → Pq w (f a) (g b)) : ∀ {A B : List (List Int)}, PL w A B → PL w (A.map f) (B.map g)
  | [], [], _ => True.intro
  | a :: as, b :: bs, h => ⟨hf _ _ h.1, PL.map hf h.2⟩
theorem PL.app {w : Nat} {a b : List Int} (h : Pq w a b) : ∀ {A B : List (List Int)}, PL w A B → PL w (A ++ [a]) (B ++ [b])
  | [], [], _ => ⟨h, True.intro⟩
  | a :: as, b :: bs, g => ⟨g.1, PL.app h g.2⟩
theorem PL.rf {w : Nat} : ∀ {A : List (List Int)}, (∀ a ∈ A, a.length = w) → PL w A A
  | [], _ => True.intro
  | a :: as, h => ⟨⟨h a List.mem_cons_self, h a List.mem_cons_self, 1, 1, by decide, by decide, fun _ => rfl⟩, PL.rf fun b hb => h b (List.mem_cons_of_mem _ hb)⟩
theorem PL.prim {w : Nat} : ∀ {A B : List (List Int)}, PL w A B → A.map prim = B.map prim
  | [], [], _ => rfl
  | a :: as, b :: bs, h => by
    rw [List.map_cons, List.map_cons, prim_pq h.1, PL.prim h.2]
theorem less_pq {w p : Nat} {r r' hd hd' : List Int} (h : Pq w r r') (g : Pq w hd hd') (hp : co hd p ≠ 0) : Pq w (less r hd p) (lless r' hd' p) := by
  have hp' : co hd' p ≠ 0 := fun z => hp ((g.zero p).mpr z)
  obtain ⟨h1, h2, α, β, ha, hb, e⟩ := h
  obtain ⟨g1, g2, γ, δ, hc, hd0, f⟩ := g
  obtain ⟨c, c0, q⟩ := lePP.lin r hd p hp (h1.trans g1.symm)
  obtain ⟨c', c0', q'⟩ := lePL.lin r' hd' p hp' (h2.trans g2.symm)
  refine ⟨by rw [less_len, h1], by rw [lless_len, h2], α * γ * c, β * δ * c', Int.mul_ne_zero (Int.mul_ne_zero ha hc) c0, Int.mul_ne_zero (Int.mul_ne_zero hb hd0) c0', fun j => ?_⟩
  rw [Int.mul_assoc, q j, Int.mul_assoc (β * δ), q' j]
  have e1 := e j
  have e2 := e p
  have f1 := f j
  have f2 := f p
  have : α * γ * (co hd p * co r j - co r p * co hd j) = (γ * co hd p) * (α * co r j) - (α * co r p) * (γ * co hd j) := by grind
  rw [this, f2, e1, e2, f1]
  grind
theorem eS_pq {w : Nat} {rows : List (List Int)} (hw : ∀ r ∈ rows, r.length = w) : ∀ p, PL w (eS less rows p).1 (eS lless rows p).1 ∧ PL w (eS less rows p).2 (eS lless rows p).2
  | 0 => ⟨PL.rf hw, True.intro⟩
  | p + 1 => by
    obtain ⟨h1, h2⟩ := eS_pq hw p
    show PL w (stp less p (eS less rows p)).1 (stp lless p (eS lless rows p)).1 ∧ PL w (stp less p (eS less rows p)).2 (stp lless p (eS lless rows p)).2
    cases e : hix (eS less rows p).1 p with
    | none =>
      rw [stp_none e, stp_none (by rw [← h1.hix]; exact e)]
      exact ⟨h1, h2⟩
    | some h =>
      rw [stp_some e, stp_some (by rw [← h1.hix]; exact e)]
      obtain ⟨hh, hd⟩ := hix_some e
      have g := h1.get hh
      exact ⟨(h1.erase h).map fun a b q => less_pq q g hd, PL.app g (h2.map fun a b q => less_pq q g hd)⟩
theorem ech_eq {w : Nat} {rows : List (List Int)} (hw : ∀ r ∈ rows, r.length = w) : ech less rows w = ech lless rows w := (eS_pq hw w).2.prim
/-! ### the echelon is a base -/
structure Told (w M : Nat) (rows T : List (List Int)) : Prop where
  len : ∀ t ∈ T, t.length = w
  lt : ∀ t ∈ T, ld t < w
  nz : ∀ t ∈ T, co t (ld t) ≠ 0
  z : ∀ i k, i < T.length → k < T.length → k ≠ i → row T k (ld (T.getD i [])) = 0
  base : Base w rows.length (row rows) T.length (row T)
  bd : ∀ t ∈ T, ∀ j, (co t j).natAbs ≤ Bd T.length M
theorem getD_map {A : List (List Int)} {f : List Int → List Int} {k : Nat} (h : k < A.length) : (A.map f).getD k [] = f (A.getD k []) := by
  rw [List.getD_eq_getElem?_getD, List.getD_eq_getElem?_getD, List.getElem?_map, List.getElem?_eq_getElem h]
  rfl
theorem told {le : List Int → List Int → Nat → List Int} (hle : LeP le) {w M : Nat} {rows : List (List Int)} (hw : ∀ r ∈ rows, r.length = w) (hM : ∀ r ∈ rows, ∀ x ∈ r, x.natAbs ≤ M) : Told w M rows (ech le rows w) := by
  obtain ⟨Hh, P, I⟩ := inv hle hw w (Nat.le_refl _)
  unfold ech
  generalize (eS le rows w).1 = left at I
  generalize (eS le rows w).2 = found at I
  have hz : ∀ (r : List Int) (j : Nat), co (prim r) j = 0 ↔ co r j = 0 := fun r j => by
    have := prim_ex r j
    constructor <;> intro z <;> rw [z] at this
    · rw [Int.mul_zero] at this
      exact this.symm
    · exact (Int.mul_eq_zero.mp this).resolve_left (pf_ne r)
  have hld : ∀ k, k < found.length → ld (prim (found.getD k [])) = P.getD k 0 := fun k hk => ld_char (fun z => I.nz k hk ((hz _ _).mp z)) fun j hj => (hz _ _).mpr (I.be k hk j hj)
  have mem : ∀ t ∈ found.map prim, ∃ k, k < found.length ∧ t = prim (found.getD k []) := fun t ht => by
    obtain ⟨r, hr, rfl⟩ := List.mem_map.mp ht
    obtain ⟨k, hk, e⟩ := List.mem_iff_getElem.mp hr
    exact ⟨k, hk, by rw [List.getD_eq_getElem?_getD, List.getElem?_eq_getElem hk, e]; rfl⟩
  have z' : ∀ i k, i < (found.map prim).length → k < (found.map prim).length → k ≠ i → row (found.map prim) k (ld ((found.map prim).getD i [])) = 0 := fun i k hi hk hne => by
    rw [List.length_map] at hi hk
    rw [row_map hk, getD_map hi, hld i hi]
    exact (hz _ _).mpr (I.z i k hi hk hne)
  have nz' : ∀ k, k < (found.map prim).length → row (found.map prim) k (ld ((found.map prim).getD k [])) ≠ 0 := fun k hk => by
    rw [List.length_map] at hk
    rw [row_map hk, getD_map hk, hld k hk]
    exact fun z => I.nz k hk ((hz _ _).mp z)
  have lt' : ∀ k, k < (found.map prim).length → ld ((found.map prim).getD k []) < w := fun k hk => by
    rw [List.length_map] at hk
    rw [getD_map hk, hld k hk]
    exact I.pp k hk
  refine ⟨fun t ht => ?_, fun t ht => ?_, fun t ht => ?_, z', ⟨?_, fun k hk => ?_, fun i hi => ?_⟩, fun t ht j => ?_⟩
  · obtain ⟨k, hk, rfl⟩ := mem t ht
    rw [prim_len]
    exact I.ll _ (.inr (mem_row hk))
  · obtain ⟨k, hk, rfl⟩ := mem t ht
    rw [hld k hk]
    exact I.pp k hk
  · obtain ⟨k, hk, rfl⟩ := mem t ht
    rw [hld k hk]
    exact fun z => I.nz k hk ((hz _ _).mp z)
  · exact Ech.ind (lead := fun k => ld ((found.map prim).getD k [])) ⟨lt', nz', z'⟩
  · rw [List.length_map] at hk
    rw [row_map hk]
    have h1 : SpM w rows (found.getD k []) := (I.ff _ (mem_row hk)).trans fun x hx => SpM.own (I.hr x hx)
    exact SpM.mul (c := pf (found.getD k [])) (α := 1) (pf_ne _) h1 fun j _ => by rw [prim_ex, Int.one_mul]
  · refine (I.rv _ (mem_row hi)).trans fun x hx => ?_
    rcases List.mem_append.mp hx with hx | hx
    · exact SpM.mul (c := 1) (α := pf x) (by decide) (SpM.own (List.mem_map.mpr ⟨x, hx, rfl⟩)) fun j _ => by rw [prim_ex, Int.one_mul]
    · exact SpM.zero (I.lz x hx)
  · obtain ⟨k, hk, rfl⟩ := mem t ht
    rw [List.length_map]
    refine Nat.le_trans (prim_le _ j) ?_
    have hr := mem_row hk
    generalize hR : found.getD k [] = r at hr
    by_cases hj : j < w
    · rcases I.rd r (.inr hr) with hv | hv
      · obtain ⟨m, hm⟩ : ∃ m, found.length = m + 1 := ⟨found.length - 1, by omega⟩
        have hI := I.ind (Nat.le_refl _)
        have hs := I.ff r hr
        unfold SpM at hs
        rw [I.hl] at hs
        have hk0 := hk
        rw [hm] at hI hs hk ⊢
        refine bd_found (B := row Hh) (P := fun k => P.getD k 0) (i0 := k) (I.ll r (.inr hr)) hv (fun i hi j => co_bd hM (I.hr _ (mem_row (by rw [I.hl, hm]; exact hi))) j) (fun k hk => I.pp k (by omega)) hI hs hk (fun i hi hne => ?_) j hj
        rw [← hR]
        exact I.z i k (by omega) hk0 (Ne.symm hne)
      · exact Nat.le_trans (co_bd hM hv j) (Bd_le (by omega))
    · rw [co_far (by rw [I.ll r (.inr hr)]; omega)]
      exact Nat.zero_le _
end K01

set_option Elab.async false
set_option linter.all false
set_option maxRecDepth 100000
set_option maxHeartbeats 2000000
/-! kernels: what is computed -/
namespace K01
open PySem PySem.Spec PyProof.Rows L2 FDivQ LA
/-- the lead of a row, as an entry -/
abbrev le0 (t : List Int) : Int := co t (ld t)
def wst (a : Int) (t : List Int) : Int := a * (le0 t).fdiv (Nat.gcd a.natAbs (le0 t).natAbs : Nat)
/-- the least common multiple of the leads -/
def whl (T : List (List Int)) : Int := T.foldl wst 1
theorem whl_snoc (T : List (List Int)) (t : List Int) : whl (T ++ [t]) = wst (whl T) t := by
  unfold whl
  rw [List.foldl_append]
  rfl
/-- places without leads -/
def frees (T : List (List Int)) (w : Nat) : List Nat := (List.range w).filter fun p => !(T.map ld).contains p
def kst (W : Int) (f : Nat) (o : List Int) (t : List Int) : List Int := o.set (ld t) (-(W.fdiv (le0 t)) * co t f)
def lst' (W : Int) (f : Nat) (o : List Int) (t : List Int) : List Int := o.set (ld t) (0 - (W * co t f).fdiv (le0 t))
def k0 (W : Int) (w f : Nat) : List Int := (List.replicate w (0 : Int)).set f W
def kone (T : List (List Int)) (w f : Nat) : List Int := T.foldl (kst (whl T) f) (k0 (whl T) w f)
def lkone (T : List (List Int)) (w f : Nat) : List Int := T.foldl (lst' (whl T) f) (k0 (whl T) w f)
theorem kst_len (W : Int) (f : Nat) (o t : List Int) : (kst W f o t).length = o.length := List.length_set ..
theorem lst_len (W : Int) (f : Nat) (o t : List Int) : (lst' W f o t).length = o.length := List.length_set ..
theorem k0_len (W : Int) (w f : Nat) : (k0 W w f).length = w := by
  unfold k0
  rw [List.length_set, List.length_replicate]
theorem fold_len {g : List Int → List Int → List Int} (h : ∀ o t, (g o t).length = o.length) : ∀ (T : List (List Int)) (o : List Int), (T.foldl g o).length = o.length
  | [], _ => rfl
  | t :: T, o => by
    rw [List.foldl_cons, fold_len h T, h]
theorem kone_len (T : List (List Int)) (w f : Nat) : (kone T w f).length = w := by
  unfold kone
  rw [fold_len (kst_len _ _), k0_len]
theorem lkone_len (T : List (List Int)) (w f : Nat) : (lkone T w f).length = w := by
  unfold lkone
  rw [fold_len (lst_len _ _), k0_len]
def kvs (T : List (List Int)) (w : Nat) : List (List Int) := (frees T w).map (kone T w)
def lkvs (T : List (List Int)) (w : Nat) : List (List Int) := (frees T w).map (lkone T w)
theorem frees_len (T : List (List Int)) (w : Nat) : (frees T w).length ≤ w := by
  have := List.length_filter_le (fun p => !(T.map ld).contains p) (List.range w)
  rwa [List.length_range] at this
theorem frees_lt {T : List (List Int)} {w f : Nat} (h : f ∈ frees T w) : f < w := List.mem_range.mp (List.mem_filter.mp h).1
/-- what the divisions and products of a kernel ask -/
structure KOk (T : List (List Int)) : Prop where
  c1 : ∀ A t B, T = A ++ t :: B → CDivQ (le0 t) (Nat.gcd (whl A).natAbs (le0 t).natAbs : Nat)
  m1 : ∀ A t B, T = A ++ t :: B → CMulW (whl A) ((le0 t).fdiv (Nat.gcd (whl A).natAbs (le0 t).natAbs : Nat))
  c2 : ∀ t ∈ T, CDivQ (whl T) (le0 t)
  m2 : ∀ t ∈ T, ∀ f, CMulW (-((whl T).fdiv (le0 t))) (co t f)
  m3 : ∀ t ∈ T, ∀ f, CMulW (whl T) (co t f)
  c3 : ∀ t ∈ T, ∀ f, CDivQ (whl T * co t f) (le0 t)
end K01

set_option Elab.async false
set_option linter.all false
set_option maxRecDepth 100000
set_option maxHeartbeats 4000000
namespace K01
open PySem PySem.Spec PyProof.Rows L2 StX RZ MyR SlX OwnR OwnF EnumT GxR GenNx FDivQ
theorem take_split {T : List (List Int)} {i : Nat} {t : List Int} (h : T[i]? = some t) : T = T.take i ++ t :: T.drop (i + 1) := by
  obtain ⟨hi, e⟩ := List.getElem?_eq_some_iff.mp h
  rw [← e, List.getElem_cons_drop, List.take_append_drop]
theorem RX.memA {p : Addr → List Int → Prop} : ∀ {as : List Addr} {rs : List (List Int)} {a : Addr}, RX p as rs → a ∈ as → ∃ r, r ∈ rs ∧ p a r
  | [], [], _, _, h => absurd h List.not_mem_nil
  | b :: as, r :: rs, a, h, ha => by
    rcases List.mem_cons.mp ha with rfl | ha
    · exact ⟨r, List.mem_cons_self, h.1⟩
    · obtain ⟨s, hs, k⟩ := RX.memA h.2 ha
      exact ⟨s, List.mem_cons_of_mem _ hs, k⟩
theorem RR.updN {H : Hp} {D : Addr} {o : HO} {as : List Addr} {rs : List (List Int)} (h : RR H as rs) (hn : ∀ a ∈ as, a ≠ D) : RR (L2.upd H D o) as rs := RX.impM (fun a ha r e => by rw [upd_ne (hn a ha)]; exact e) h
theorem tg_updL {Ps : List Addr} {H : Hp} {D : Addr} {o : HO} {xs : List V} (h : Tg Ps H) (hD : H D = some (.lst xs)) : Tg Ps (L2.upd H D o) := fun P m => by
  obtain ⟨ps, e, k⟩ := h P m
  refine ⟨ps, ?_, k⟩
  rw [upd_ne fun z => by rw [z, hD] at e; cases e]
  exact e
theorem ixN_at {n j : Nat} (h : j < n) : ixN n (j : Int) = some j := by
  unfold ixN
  rw [if_pos (by omega), if_pos (by omega)]
  rfl
theorem flat_ints (l : List Int) : (l.map V.int).all flatV = true := by
  rw [List.all_eq_true]
  intro x hx
  obtain ⟨i, _, rfl⟩ := List.mem_map.mp hx
  rfl
theorem inV_ld (T : List (List Int)) (j : Nat) : inV (.int (j : Int)) ((T.map fun t => (ld t : Int)).map V.int) = (T.map ld).contains j := by
  unfold inV
  rw [List.map_map, List.any_map, List.contains_eq_any_beq, List.any_map]
  congr 1
  funext t
  show ((ld t : Int) == (j : Int)) = (j == ld t)
  by_cases c : ld t = j
  · rw [c, beq_self_eq_true, beq_self_eq_true]
  · rw [beq_false_of_ne (fun z => c (by omega)), beq_false_of_ne (fun z => c z.symm)]
section
variable {P : Program} {w : World} {K : PySem.W.Frag} {mg : Str → Option Value} {base : Heap} {Ps : List Addr}
def spKern (Ps : List Addr) : Sp := fun vs H Q _ => ∃ (t : Addr) (as : List Addr) (rows : List (List Int)) (n : Nat), vs = [.ref t, .int n] ∧ H t = some (.tup (as.map V.ref)) ∧ RA H as rows ∧ rows.length ≤ 100 ∧ n ≤ 100 ∧ (∀ r ∈ rows, r.length = n) ∧
  EOk less rows n ∧ (∀ t ∈ ech less rows n, t.length = n ∧ ld t < n) ∧ KOk (ech less rows n) ∧ EOk less (kvs (ech less rows n) n) n ∧ Tg Ps H ∧ ∀ p bs H', Sts Ps H H' → Tg Ps H' → H' p = some (.lst (bs.map V.ref)) → RR H' bs (ech less (kvs (ech less rows n) n) n) → Q (.ref p) H'
theorem ok_kernel_rows (T : Facts K mg) (TB_first_of : TabB base mg T.c_first_of T.P_first_of) (hP : T.P_first_of ∈ Ps) : FnOk P w K mg base CX0 4 T.f_kernel_rows T.fd_kernel_rows ["rows", "width"] (spKern Ps) := by
  have G_echelon_rows := ok_echelon_rows (P := P) (w := w) (base := base) T TB_first_of hP
  have G_lead_of := ok_lead_of (P := P) (w := w) (base := base) T
  refine T.F_kernel_rows.ok sc_kernel_rows (fun vs H Q E h => ?_) (fun cdv A outer s H vs Q E hr h => ?_)
  · obtain ⟨t, as, rows, n, rfl, _⟩ := h
    rfl
  · obtain ⟨t, as, rows, n, rfl, hS, hA, hl, hn, hw, ok, hT, hk, ok2, hG, q⟩ := h
    refine ⟨_, (PSs.nox (pss_cons (ps_par (i := 2) (j := 3) (by rfl) sc_kernel_rows.nd rfl rfl (by decide) rfl rfl (pa_cons (pe_call G_echelon_rows hr (by rfl) T.g_echelon_rows T.F_echelon_rows.kp T.b_echelon_rows .nil pass0 (pa_cons (pv 0) (pa_cons (pv 1) pa_nil))) (pa_cons (pe_lst pa_nil) pa_nil)) (by rfl))
    (pss_cons (ps_set (i := 4) sc_kernel_rows.nd rfl (.inr rfl) (pe_lc (own := [("row", 5)]) (g := (gName 5)) (tt := tYes) (by rfl) sc_kernel_rows.nd (pi_list (pv 2)) (blkOk_by (N := N_kernel_rows) (sc := defScope s_kernel_rows) (by decide +kernel)) (fun _ _ _ _ _ => (pg_name (i := 5) sc_kernel_rows.nd rfl (.inl rfl))) (fun _ _ _ _ _ => pts_nil) (fun _ _ _ _ _ => (pe_call G_lead_of (hr.mono (by decide)) (by rfl) T.g_lead_of T.F_lead_of.kp T.b_lead_of .nil pass0 (pa_cons (pv 5) pa_nil)))))
    (pss_cons (ps_set (i := 6) sc_kernel_rows.nd rfl (.inl rfl) pe_int)
    (pss_cons (ps_for PassesOwn.never (by rfl) (pi_zipA (by rfl) T.z_zip (pa_cons (pv 2) (pa_cons (pv 4) pa_nil))) (pg_tup (by rfl) (pgs_cons (pg_name (i := 5) sc_kernel_rows.nd rfl (.inl rfl)) (pgs_cons (pg_name (i := 7) sc_kernel_rows.nd rfl (.inl rfl)) pgs_nil)))
      (pss_one (ps_set (i := 6) sc_kernel_rows.nd rfl (.inl rfl) (pe_op op_mulW (pv 6) (pe_op FDivQ.op_fdivQ (pe_ix ix_list (pv 5) (pv 7) (fun _ _ => rfl)) (pe_callBfun cr_gcd (by rfl) T.m_gcd (pa_cons (pv 6) (pa_cons (pe_ix ix_list (pv 5) (pv 7) (fun _ _ => rfl)) pa_nil))))))))
    (pss_cons (ps_for PassesOwn.never (by rfl) (pi_list (pe_lc (own := [("place", 9)]) (g := (gName 9)) (by rfl) sc_kernel_rows.nd (pi_range1 (by rfl) T.z_range (pa_cons (pv 1) pa_nil)) (blkOk_by (N := N_kernel_rows) (sc := defScope s_kernel_rows) (by decide +kernel)) (fun _ _ _ _ _ => (pg_name (i := 9) sc_kernel_rows.nd rfl (.inl rfl))) (fun _ _ _ _ _ => (pts_one (pt_cmpR (op_notIn_seq : OpR _ (compareOp .NotIn) (rIn K true)) (pv 9) (pv 4) (by rfl)))) (fun _ _ _ _ _ => (pv 9)))) (pg_name (i := 8) sc_kernel_rows.nd rfl (.inl rfl))
      (pss_cons (ps_set (i := 10) sc_kernel_rows.nd rfl (.inl rfl) (pe_op op_rep (pe_lst (pa_cons pe_int pa_nil)) (pv 1)))
      (pss_cons (ps_asg (pv 6) (pg_sub (pv 10) (pv 8) set_list))
      (pss_cons (ps_for PassesOwn.never (by rfl) (pi_zipA (by rfl) T.z_zip (pa_cons (pv 2) (pa_cons (pv 4) pa_nil))) (pg_tup (by rfl) (pgs_cons (pg_name (i := 5) sc_kernel_rows.nd rfl (.inl rfl)) (pgs_cons (pg_name (i := 7) sc_kernel_rows.nd rfl (.inl rfl)) pgs_nil)))
        (pss_one (ps_asg (pe_op op_mulW (pe_un un_neg (pe_op FDivQ.op_fdivQ (pv 6) (pe_ix ix_list (pv 5) (pv 7) (fun _ _ => rfl)))) (pe_ix ix_list (pv 5) (pv 8) (fun _ _ => rfl))) (pg_sub (pv 10) (pv 7) set_list))))
      (pss_one (ps_expr (pe_bm PySem.F.plainAttrs_list PySem.F.slot_list_append PySem.F.type_list_append mt_append (pv 3) (pa_cons (pv 10) pa_nil))))))))
    (pss_one (ps_ret (pe_call G_echelon_rows hr (by rfl) T.g_echelon_rows T.F_echelon_rows.kp T.b_echelon_rows .nil pass0 (pa_cons (pv 3) (pa_cons (pv 1) pa_nil))))))))))), ?_⟩
    refine ⟨_, rfl, _, rfl, t, as, rows, n, rfl, .inl hS, hA, hl, hn, hw, ok, hG, fun p bs H1 s1 t1 e1 r1 => ?_⟩
    dsimp only [tCons, tLst, tNil]
    refine ⟨by decide, fun F hF => ⟨_, _, rfl, ?_⟩⟩
    have s2 : Sts Ps H (upd H1 F (.lst [])) := s1.trans (Sts.of (same_upd0 hF))
    have t2 : Tg Ps (upd H1 F (.lst [])) := t1.same (same_upd0 hF)
    have e2 := same_upd0 (o := .lst []) hF _ _ e1
    have r2 : RR (upd H1 F (.lst [])) bs (ech less rows n) := r1.same (same_upd0 hF)
    have nF : ∀ b o, b ∉ Ps → H b = some o → b ≠ F := fun b o nb e => ne_of_none (s1 _ _ nb e) hF
    have f2 : (upd H1 F (.lst [])) F = some (.lst []) := upd_same
    have pF : p ≠ F := ne_of_none e1 hF
    have bF : ∀ a ∈ bs, a ≠ F := fun a ha => by
      obtain ⟨r, _, e⟩ := RX.memA r1 ha
      exact ne_of_none e hF
    generalize upd H1 F (.lst []) = H2 at s2 t2 e2 r2 f2 ⊢
    clear s1 t1 e1 r1 hF
    have hTl : (ech less rows n).length ≤ 100 := by
      unfold ech
      rw [List.length_map]
      have := eS_cnt less rows n
      omega
    generalize ech less rows n = Tl at hT hk ok2 q r2 hTl ⊢
    have blen := r2.len
    refine ⟨_, rfl, p, rfl, ⟨_, SqL.of e2⟩, fun L hL => ?_⟩
    refine lc_list (xs := bs.map V.ref) (fun j H' => Same H2 H' ∧ H' L = some (.lst (((Tl.take j).map fun t => (ld t : Int)).map V.int))) ⟨same_upd0 hL, upd_same⟩ (fun j H' _ hP => SqL.of (hP.1 _ _ e2)) (fun j x H' hx hP => ?_) (fun H3 hP => ?_)
    · obtain ⟨sH, hL'⟩ := hP
      rw [List.getElem?_map] at hx
      obtain ⟨a, ha, rfl⟩ := Option.map_eq_some_iff.mp hx
      obtain ⟨a', r, g1, g2, g3⟩ := RX.get r2 (by rw [← blen]; exact (List.getElem?_eq_some_iff.mp ha).1)
      rw [ha] at g1
      cases g1
      have hr2 := hT r (List.mem_of_getElem? g2)
      refine ⟨rfl, _, rfl, a, r, rfl, sH _ _ g3, by rw [hr2.1]; exact hn, by rw [hr2.1]; exact hr2.2, fun H4 s4 => ⟨_, s4 _ _ hL', ?_, fun b o e => ?_, ?_⟩⟩
      · rw [List.length_map, List.length_map, List.length_take]
        exact small1000 (by omega)
      · rw [upd_ne (ne_of_none e hL)]
        exact s4 _ _ (sH _ _ e)
      · rw [upd_same, List.take_add_one, g2, List.map_append, List.map_append]
        rfl
    · obtain ⟨s3, l3⟩ := hP
      rw [List.length_map, blen, List.take_length] at l3
      have e3 := s3 _ _ e2
      have f3 := s3 _ _ f2
      have r3 := r2.same s3
      have t3 := t2.same s3
      have s3' := s2.trans (Sts.of s3)
      have nLF : L ≠ F := fun e => by
        rw [e, f2] at hL
        cases hL
      clear s3 e2 f2 r2 t2 s2
      refine ⟨_, rfl, _, rfl, p, L, bs.map V.ref, (Tl.map fun t => (ld t : Int)).map V.int, rfl, .inl ⟨SqL.of e3, SqL.of l3, for_zipL (xs := bs.map V.ref) (ys := (Tl.map fun t => (ld t : Int)).map V.int) (by rw [List.length_map, List.length_map, List.length_map, blen]) (fun i σ H' => ∃ y5 y7, σ = [some (.ref t), some (.int n), some (.ref p), some (.ref F), some (.ref L), y5, some (.int (whl (Tl.take i))), y7, none, none, none] ∧ Same H3 H') ⟨none, none, rfl, fun _ _ e => e⟩ (fun i σ H' hP => by
        obtain ⟨y5, y7, _, sH⟩ := hP
        exact ⟨SqL.of (sH _ _ e3), SqL.of (sH _ _ l3)⟩) (fun i x y A σ H' hx hy hP hA => ?_) (fun σ H4 hP => ?_)⟩⟩
      · obtain ⟨y5, y7, rfl, sH⟩ := hP
        rw [List.getElem?_map] at hx
        obtain ⟨a, ha, rfl⟩ := Option.map_eq_some_iff.mp hx
        obtain ⟨a', r, g1, g2, g3⟩ := RX.get r3 (by rw [← blen]; exact (List.getElem?_eq_some_iff.mp ha).1)
        rw [ha] at g1
        cases g1
        rw [List.getElem?_map, List.getElem?_map, g2] at hy
        obtain rfl : V.int (ld r : Int) = y := Option.some.inj hy
        have hr2 := hT r (List.mem_of_getElem? g2)
        have sA := same_upd0 (o := .tup [.ref a, .int (ld r : Int)]) hA
        have gA := sA _ _ (sH _ _ g3)
        have k1 := hk.c1 _ _ _ (take_split g2)
        have k2 := hk.m1 _ _ _ (take_split g2)
        have ix : atI (r.map V.int) ((ld r : Nat) : Int) = some (.int (le0 r)) := atI_nat (get_int (by rw [hr2.1]; exact hr2.2))
        refine ⟨A, _, rfl, SqT.of upd_same, rfl, _, _, rfl, _, _, rfl, rfl, _, rfl, _, rfl, _, rfl, a, _, _, .int (le0 r), rfl, rfl, SqL.of gA, ix, _, rfl, _, rfl, _, rfl, a, _, _, .int (le0 r), rfl, rfl, SqL.of gA, ix, _, _, rfl, _, _, rfl, rfl, k1, _, _, rfl, rfl, k2, some (.ref a), some (.int (ld r : Nat)), ?_, fun b o e => sA _ _ (sH _ _ e)⟩
        rw [List.take_add_one, g2, show (some r).toList = [r] from rfl, whl_snoc]
        rfl
      · obtain ⟨y5, y7, rfl, sH⟩ := hP
        rw [List.length_map, blen, List.take_length]
        have e4 := sH _ _ e3
        have l4 := sH _ _ l3
        have f4 := sH _ _ f3
        have r4 := r3.same sH
        have t4 := t3.same sH
        have s4 := s3'.trans (Sts.of sH)
        clear sH e3 l3 f3 r3 t3 s3'
        refine ⟨_, rfl, _, rfl, by omega, by omega, fun D hD => ?_⟩
        refine lc_range (n := n) (fun j H' => Same H4 H' ∧ H' D = some (.lst ((frees Tl j).map fun p : Nat => V.int (p : Int)))) ⟨same_upd0 hD, upd_same⟩ (fun j H' hj hP => ?_) (fun H5 hP => ?_)
        · obtain ⟨sH, hL'⟩ := hP
          rw [Int.zero_add]
          refine ⟨rfl, _, rfl, _, rfl, L, _, rfl, .inl (SqL.of (sH _ _ l4)), rfl, flat_ints _, _, rfl, ?_⟩
          rw [if_pos rfl, inV_ld]
          unfold frees at hL' ⊢
          rw [List.range_succ, List.filter_append]
          cases d : (Tl.map ld).contains j with
          | true =>
            refine iteF ⟨sH, ?_⟩
            rw [hL', List.filter_cons_of_neg (by simp only [d, Bool.not_true, Bool.false_eq_true, not_false_eq_true]), List.filter_nil, List.append_nil]
          | false =>
            refine iteT ⟨_, rfl, _, hL', ?_, fun b o e => ?_, ?_⟩
            · rw [List.length_map]
              have h1 := List.length_filter_le (fun p => !(Tl.map ld).contains p) (List.range j)
              rw [List.length_range] at h1
              exact small1000 (by omega)
            · rw [upd_ne (ne_of_none e hD)]
              exact sH _ _ e
            · rw [upd_same, List.filter_cons_of_pos (by simp only [d, Bool.not_false]), List.filter_nil, List.map_append]
              rfl
        · obtain ⟨s5, d5⟩ := hP
          have e5 := s5 _ _ e4
          have l5 := s5 _ _ l4
          have f5 := s5 _ _ f4
          have r5 := r4.same s5
          have t5 := t4.same s5
          have s5' := s4.trans (Sts.of s5)
          have nDF : D ≠ F := fun e => by
            rw [e, f4] at hD
            cases hD
          clear s5 e4 l4 f4 r4 t4 s4
          refine ⟨D, rfl, ⟨_, SqL.of d5⟩, for_list (xs := (frees Tl n).map fun p : Nat => V.int (p : Int)) (fun i σ H' => ∃ fs y5 y7 y8 y10, σ = [some (.ref t), some (.int n), some (.ref p), some (.ref F), some (.ref L), y5, some (.int (whl Tl)), y7, y8, none, y10] ∧ Sts Ps H H' ∧ Tg Ps H' ∧ H' p = some (.lst (bs.map V.ref)) ∧ H' L = some (.lst ((Tl.map fun t => (ld t : Int)).map V.int)) ∧ RR H' bs Tl ∧ H' D = some (.lst ((frees Tl n).map fun p : Nat => V.int (p : Int))) ∧ H' F = some (.lst (fs.map V.ref)) ∧ RR H' fs (((frees Tl n).take i).map (kone Tl n)) ∧ ∀ a ∈ fs, a ≠ F) ⟨[], y5, y7, none, none, rfl, s5', t5, e5, l5, r5, d5, f5, True.intro, fun a ha => absurd ha List.not_mem_nil⟩ (fun i σ H' _ hP => by
            obtain ⟨fs, y5, y7, y8, y10, _, _, _, _, _, _, d6, _⟩ := hP
            exact SqL.of d6) (fun i x σ H6 hx hP => ?_) (fun σ H6 hP => ?_)⟩
          · obtain ⟨fs, y5, y7, y8, y10, rfl, s6, t6, e6, l6, r6, d6, f6, g6, n6⟩ := hP
            rw [List.getElem?_map] at hx
            obtain ⟨fr, hfr, rfl⟩ := Option.map_eq_some_iff.mp hx
            have hfn := frees_lt (List.mem_of_getElem? hfr)
            refine ⟨by decide, fun Z hZ => ⟨_, rfl, Z, n, [.int 0], rfl, rfl, upd_same, by omega, by omega, by show 1 * (n : Int).toNat ≤ sizeLine; rw [Int.toNat_natCast, Nat.one_mul]; exact Nat.le_of_lt (small1000 (by omega)), fun O hO => ?_⟩⟩
            have s7 : Same H6 (upd (upd H6 Z (.lst [.int 0])) O (.lst (List.replicate (n : Int).toNat [V.int 0]).flatten)) := fun b o e => same_upd0 hO _ _ (same_upd0 hZ _ _ e)
            have nO : H6 O = none := by
              cases e : H6 O with
              | none => rfl
              | some o =>
                rw [same_upd0 hZ _ _ e] at hO
                cases hO
            have o7 : (upd (upd H6 Z (.lst [.int 0])) O (.lst (List.replicate (n : Int).toNat [V.int 0]).flatten)) O = some (ls (List.replicate n 0)) := by
              rw [upd_same, Int.toNat_natCast, List.flatten_replicate_singleton, ls, List.map_replicate]
            generalize upd (upd H6 Z (.lst [.int 0])) O (.lst (List.replicate (n : Int).toNat [V.int 0]).flatten) = H7 at s7 o7 ⊢
            clear hO hZ
            refine ⟨_, rfl, _, rfl, _, rfl, O, _, _, fr, rfl, rfl, o7, ixN_at (by rw [List.length_map, List.length_replicate]; exact hfn), ?_⟩
            have s8 : Same H6 (upd H7 O (.lst (((List.replicate n (0 : Int)).map V.int).set fr (.int (whl Tl))))) := fun b o e => by
              rw [upd_ne (ne_of_none e nO)]
              exact s7 _ _ e
            have o8 : (upd H7 O (.lst (((List.replicate n (0 : Int)).map V.int).set fr (.int (whl Tl))))) O = some (ls (k0 (whl Tl) n fr)) := by
              rw [upd_same, k0, ls, List.map_set]
            generalize upd H7 O (.lst (((List.replicate n (0 : Int)).map V.int).set fr (.int (whl Tl)))) = H8 at s8 o8 ⊢
            clear s7 o7
            refine ⟨_, rfl, _, rfl, p, L, bs.map V.ref, (Tl.map fun t => (ld t : Int)).map V.int, rfl, .inl ⟨SqL.of (s8 _ _ e6), SqL.of (s8 _ _ l6), for_zipL (xs := bs.map V.ref) (ys := (Tl.map fun t => (ld t : Int)).map V.int) (by rw [List.length_map, List.length_map, List.length_map, blen]) (fun i σ H' => ∃ y5 y7, σ = [some (.ref t), some (.int n), some (.ref p), some (.ref F), some (.ref L), y5, some (.int (whl Tl)), y7, some (.int (fr : Nat)), none, some (.ref O)] ∧ Same H6 H' ∧ H' O = some (ls ((Tl.take i).foldl (kst (whl Tl) fr) (k0 (whl Tl) n fr)))) ⟨y5, y7, rfl, s8, o8⟩ (fun i σ H' hP => by
              obtain ⟨y5, y7, _, sH, _⟩ := hP
              exact ⟨SqL.of (sH _ _ e6), SqL.of (sH _ _ l6)⟩) (fun i x y A σ H' hx hy hP hA => ?_) (fun σ H9 hP => ?_)⟩⟩
            · obtain ⟨y5, y7, rfl, sH, oH⟩ := hP
              rw [List.getElem?_map] at hx
              obtain ⟨a, ha, rfl⟩ := Option.map_eq_some_iff.mp hx
              obtain ⟨a', r, g1, g2, g3⟩ := RX.get r6 (by rw [← blen]; exact (List.getElem?_eq_some_iff.mp ha).1)
              rw [ha] at g1
              cases g1
              rw [List.getElem?_map, List.getElem?_map, g2] at hy
              obtain rfl : V.int (ld r : Int) = y := Option.some.inj hy
              have hm := List.mem_of_getElem? g2
              have hr2 := hT r hm
              have sA := same_upd0 (o := .tup [.ref a, .int (ld r : Int)]) hA
              have gA := sA _ _ (sH _ _ g3)
              have ix : atI (r.map V.int) ((ld r : Nat) : Int) = some (.int (le0 r)) := atI_nat (get_int (by rw [hr2.1]; exact hr2.2))
              have ix2 : atI (r.map V.int) ((fr : Nat) : Int) = some (.int (co r fr)) := atI_nat (get_int (by rw [hr2.1]; exact hfn))
              have fl : (List.foldl (kst (whl Tl) fr) (k0 (whl Tl) n fr) (Tl.take i)).length = n := by rw [fold_len (kst_len _ _), k0_len]
              refine ⟨A, _, rfl, SqT.of upd_same, rfl, _, _, rfl, _, _, rfl, rfl, _, rfl, _, rfl, _, rfl, a, _, _, .int (le0 r), rfl, rfl, SqL.of gA, ix, _, _, rfl, rfl, hk.c2 r hm, _, rfl, _, rfl, _, rfl, a, _, _, .int (co r fr), rfl, rfl, SqL.of gA, ix2, _, _, rfl, rfl, hk.m2 r hm fr, _, rfl, _, rfl, O, _, _, ld r, rfl, rfl, sA _ _ oH, ixN_at (by rw [List.length_map, fl]; exact hr2.2), some (.ref a), some (.int (ld r : Nat)), rfl, fun b o e => ?_, ?_⟩
              · rw [upd_ne (ne_of_none e nO)]
                exact sA _ _ (sH _ _ e)
              · rw [upd_same, List.take_add_one, g2, List.foldl_append]
                show some (HO.lst _) = some (HO.lst ((kst (whl Tl) fr _ r).map V.int))
                unfold kst
                rw [List.map_set]
            · obtain ⟨y5, y7, rfl, sH, oH⟩ := hP
              rw [List.length_map, blen, List.take_length] at oH
              have oH : H9 O = some (ls (kone Tl n fr)) := oH
              have fl := g6.len
              rw [List.length_map] at fl
              have hi : i < (frees Tl n).length := (List.getElem?_eq_some_iff.mp hfr).1
              have hi2 := frees_len Tl n
              rw [List.length_take] at fl
              have fH := sH _ _ f6
              have nOF : O ≠ F := fun e => by
                rw [e, f6] at nO
                cases nO
              refine ⟨_, rfl, .inl ⟨rfl, _, SqL.of fH⟩, _, rfl, F, _, _, rfl, rfl, fH, by rw [List.length_map]; exact small1000 (by omega), fs ++ [O], y5, y7, _, _, rfl, fun b o nb e => ?_, tg_updL (t6.same sH) fH, ?_, ?_, (r6.same sH).updN bF, ?_, ?_, ?_, fun a ha => ?_⟩
              · rw [upd_ne (nF b o nb e)]
                exact sH _ _ (s6 b o nb e)
              · rw [upd_ne pF]
                exact sH _ _ e6
              · rw [upd_ne nLF]
                exact sH _ _ l6
              · rw [upd_ne nDF]
                exact sH _ _ d6
              · rw [upd_same, List.map_append]
                rfl
              · rw [List.take_add_one, hfr, List.map_append]
                refine RX.snoc ((g6.same sH).updN n6) ?_
                show upd H9 F _ O = _
                rw [upd_ne nOF]
                exact oH
              · rcases List.mem_append.mp ha with ha | ha
                · exact n6 a ha
                · rw [List.mem_singleton.mp ha]
                  exact nOF
          · obtain ⟨fs, y5, y7, y8, y10, rfl, s6, t6, e6, l6, r6, d6, f6, g6, n6⟩ := hP
            rw [List.length_map, List.take_length] at g6
            have g6 : RR H6 fs (kvs Tl n) := g6
            have hi2 := frees_len Tl n
            refine ⟨_, rfl, _, rfl, F, fs, kvs Tl n, n, rfl, .inr f6, RX.imp (fun a r e => .inr e) g6, by unfold kvs; rw [List.length_map]; omega, hn, fun r hr => ?_, ok2, t6, fun p bs H' s7 t7 e7 r7 => q p bs H' (s6.trans s7) t7 e7 r7⟩
            obtain ⟨f, hf, rfl⟩ := List.mem_map.mp hr
            exact kone_len _ _ _
end
end K01

set_option Elab.async false
set_option linter.all false
set_option maxRecDepth 100000
set_option maxHeartbeats 4000000
namespace K01
open PySem PySem.Spec PyProof.Rows L2 StX RZ MyR SlX OwnR OwnF EnumT GxR GenNx FDivQ
section
variable {P : Program} {w : World} {K : PySem.W.Frag} {mg : Str → Option Value} {base : Heap} {Ps : List Addr}
def spLeads : Sp := fun vs H Q _ => ∃ (t : Addr) (as : List Addr) (rows : List (List Int)) (n : Nat), vs = [.ref t] ∧ H t = some (.lst (as.map V.ref)) ∧ RT H as rows ∧ rows.length ≤ 100 ∧ n ≤ 100 ∧ (∀ r ∈ rows, r.length = n ∧ ld r < n) ∧
  ∀ p H', Same H H' → H' p = some (.lst ((rows.map fun t => (ld t : Int)).map V.int)) → Q (.ref p) H'
theorem ok_law_leads (T : Facts K mg) : FnOk P w K mg base CX0 1 T.f_law_leads T.fd_law_leads ["_law_rows"] spLeads := by
  refine T.F_law_leads.ok sc_law_leads (fun vs H Q E h => ?_) (fun cdv A outer s H vs Q E hr h => ?_)
  · obtain ⟨t, as, rows, n, rfl, _⟩ := h
    rfl
  · obtain ⟨t, as, rows, n, rfl, hS, hA, hl, hn, hw, q⟩ := h
    refine ⟨_, (PSs.nox (pss_one (ps_ret (pe_lc (own := [("_law_row", 3)]) (g := (gName 3)) (tt := tYes) (by rfl) sc_law_leads.nd (pi_list (pv 0)) (blkOk_by (N := N_law_leads) (sc := defScope s_law_leads) (by decide +kernel)) (fun _ _ _ _ _ => (pg_name (i := 3) sc_law_leads.nd rfl (.inl rfl))) (fun _ _ _ _ _ => pts_nil) (fun _ _ _ _ _ => (pe_ix (ix_list : IxR _ (rIxL K)) (pe_lc (own := [("_law_at", 1), ("_law_entry", 2)]) (g := (gTup K 2 (gCons (gName 1) (gCons (gName 2) gNil)))) (by rfl) sc_law_leads.nd (pi_enumT (by rfl) T.z_enumerate (pa_cons (pv 3) pa_nil) : PI _ _ _ (iEnumT K _)) (blkOk_by (N := N_law_leads) (sc := relS _ (defScope s_law_leads)) (by decide +kernel)) (fun _ _ _ _ _ => (pg_tup (by rfl) (pgs_cons (pg_name (i := 1) sc_law_leads.nd rfl (.inl rfl)) (pgs_cons (pg_name (i := 2) sc_law_leads.nd rfl (.inl rfl)) pgs_nil)))) (fun _ _ _ _ _ => (pts_one (pt_cmpR op_ne (pv 2) pe_int (nomark _)))) (fun _ _ _ _ _ => (pv 1))) pe_int (fun _ _ => rfl))))))), ?_⟩
    have alen := hA.len
    refine ⟨_, rfl, t, rfl, ⟨_, SqL.of hS⟩, fun L hL => ?_⟩
    refine lc_list (xs := as.map V.ref) (fun j H' => Same H H' ∧ H' L = some (.lst (((rows.take j).map fun t => (ld t : Int)).map V.int))) ⟨same_upd0 hL, upd_same⟩ (fun j H' _ hP => SqL.of (hP.1 _ _ hS)) (fun j x H' hx hP => ?_) (fun H3 hP => ?_)
    · obtain ⟨sH, hL'⟩ := hP
      rw [List.getElem?_map] at hx
      obtain ⟨a, ha, rfl⟩ := Option.map_eq_some_iff.mp hx
      obtain ⟨a', r, g1, g2, g3⟩ := RX.get hA (by rw [← alen]; exact (List.getElem?_eq_some_iff.mp ha).1)
      rw [ha] at g1
      cases g1
      have hr2 := hw r (List.mem_of_getElem? g2)
      have ga := sH _ _ g3
      refine ⟨rfl, _, rfl, a, _, rfl, SqT.of ga, fun D hD => ?_⟩
      refine lc_enumT (xs := r.map V.int) (fun j H3 => Same H' H3 ∧ H3 D = some (.lst ((((List.range j).filter fun k => co r k != 0).map fun (k : Nat) => (k : Int)).map V.int))) ⟨same_upd0 hD, upd_same⟩ (fun j H3 _ hP => SqT.of (hP.1 _ _ ga)) (fun j x A H3 hx hP hA => ?_) (fun H3 hP => ?_)
      · obtain ⟨s3, h3⟩ := hP
        obtain ⟨hj, rfl⟩ := int_get hx
        have sA := same_upd0 (o := .tup [.int (j : Nat), .int (co r j)]) hA
        refine ⟨A, _, rfl, SqT.of upd_same, rfl, _, _, rfl, _, _, rfl, rfl, rfl, _, rfl, rfl, _, rfl, ?_⟩
        rw [List.range_succ, List.filter_append]
        by_cases d : co r j = 0
        · rw [decide_eq_true (show V.int (co r j) = V.int 0 by rw [d])]
          refine iteF ⟨fun b o e => sA _ _ (s3 _ _ e), ?_⟩
          rw [sA _ _ h3, List.filter_cons_of_neg (by rw [d]; decide), List.filter_nil, List.append_nil]
        · rw [decide_eq_false fun z => d (V.int.inj z)]
          refine iteT ⟨_, rfl, _, sA _ _ h3, ?_, fun b o e => ?_, ?_⟩
          · rw [List.length_map, List.length_map]
            have h1 := List.length_filter_le (fun k => co r k != 0) (List.range j)
            rw [List.length_range] at h1
            exact small1000 (by omega)
          · rw [upd_ne (ne_of_none e hD)]
            exact sA _ _ (s3 _ _ e)
          · rw [upd_same, List.filter_cons_of_pos (by simpa using d), List.filter_nil, List.map_append, List.map_append]
            rfl
      · obtain ⟨s3, h3⟩ := hP
        rw [List.length_map] at h3
        have h3 : H3 D = some (.lst ((nzs r).map V.int)) := h3
        refine ⟨D, _, 0, .int (ld r : Nat), rfl, rfl, SqL.of h3, atI_nat (j := 0) (by rw [List.getElem?_map, nzs_ld (by rw [hr2.1]; exact hr2.2)]; rfl), _, s3 _ _ hL', ?_, fun b o e => ?_, ?_⟩
        · rw [List.length_map, List.length_map, List.length_take]
          exact small1000 (by omega)
        · rw [upd_ne (ne_of_none e hL)]
          exact s3 _ _ (sH _ _ e)
        · rw [upd_same, List.take_add_one, g2, List.map_append, List.map_append]
          rfl
    · obtain ⟨s3, h3⟩ := hP
      rw [List.length_map, alen, List.take_length] at h3
      exact q L H3 s3 h3
end
end K01

set_option Elab.async false
set_option linter.all false
set_option maxRecDepth 100000
set_option maxHeartbeats 4000000
namespace K01
open PySem PySem.Spec PyProof.Rows L2 StX RZ MyR SlX OwnR OwnF EnumT GxR GenNx FDivQ
section
variable {P : Program} {w : World} {K : PySem.W.Frag} {mg : Str → Option Value} {base : Heap} {Ps : List Addr}
def spLKern : Sp := fun vs H Q _ => ∃ (t : Addr) (as : List Addr) (rows : List (List Int)) (n : Nat), vs = [.ref t, .int n] ∧ H t = some (.tup (as.map V.ref)) ∧ RA H as rows ∧ rows.length ≤ 100 ∧ n ≤ 100 ∧ (∀ r ∈ rows, r.length = n) ∧
  EOk lless rows n ∧ (∀ t ∈ ech lless rows n, t.length = n ∧ ld t < n) ∧ KOk (ech lless rows n) ∧ EOk lless (lkvs (ech lless rows n) n) n ∧ ∀ p bs H', Same H H' → H' p = some (.lst (bs.map V.ref)) → RT H' bs (ech lless (lkvs (ech lless rows n) n) n) → Q (.ref p) H'
theorem RT.updN {H : Hp} {D : Addr} {o : HO} {as : List Addr} {rs : List (List Int)} (h : RT H as rs) (hn : ∀ a ∈ as, a ≠ D) : RT (L2.upd H D o) as rs := RX.impM (fun a ha r e => by rw [upd_ne (hn a ha)]; exact e) h
theorem ok_law_kernel (T : Facts K mg) : FnOk P w K mg base CX0 5 T.f_law_kernel T.fd_law_kernel ["_law_rows", "_law_width"] spLKern := by
  have G_law_cleared := ok_law_cleared (P := P) (w := w) (base := base) T
  have G_law_leads := ok_law_leads (P := P) (w := w) (base := base) T
  have G_law_gcd := ok_law_gcd (P := P) (w := w) (base := base) T
  refine T.F_law_kernel.ok sc_law_kernel (fun vs H Q E h => ?_) (fun cdv A outer s H vs Q E hr h => ?_)
  · obtain ⟨t, as, rows, n, rfl, _⟩ := h
    rfl
  · obtain ⟨t, as, rows, n, rfl, hS, hA, hl, hn, hw, ok, hT, hk, ok2, q⟩ := h
    refine ⟨_, (PSs.nox (pss_cons (ps_set (i := 2) sc_law_kernel.nd rfl (.inl rfl) (pe_call G_law_cleared hr (by rfl) T.g_law_cleared T.F_law_cleared.kp T.b_law_cleared .nil pass0 (pa_cons (pv 0) (pa_cons (pv 1) pa_nil))))
    (pss_cons (ps_asg (pe_tup (pa_cons (pe_call G_law_leads (hr.mono (by decide)) (by rfl) T.g_law_leads T.F_law_leads.kp T.b_law_leads .nil pass0 (pa_cons (pv 2) pa_nil)) (pa_cons (pe_lst pa_nil) pa_nil))) (pg_tup (by rfl) (pgs_cons (pg_name (i := 3) sc_law_kernel.nd rfl (.inr rfl)) (pgs_cons (pg_name (i := 4) sc_law_kernel.nd rfl (.inl rfl)) pgs_nil))))
    (pss_cons (ps_for PassesOwn.never (by rfl) (pi_list (pe_lc (own := [("_law_place", 6)]) (g := (gName 6)) (by rfl) sc_law_kernel.nd (pi_range1 (by rfl) T.z_range (pa_cons (pv 1) pa_nil)) (blkOk_by (N := N_law_kernel) (sc := defScope s_law_kernel) (by decide +kernel)) (fun _ _ _ _ _ => (pg_name (i := 6) sc_law_kernel.nd rfl (.inl rfl))) (fun _ _ _ _ _ => (pts_one (pt_cmpR (op_notIn_seq : OpR _ (compareOp .NotIn) (rIn K true)) (pv 6) (pv 3) (by rfl)))) (fun _ _ _ _ _ => (pv 6)))) (pg_name (i := 5) sc_law_kernel.nd rfl (.inl rfl))
      (pss_cons (ps_set (i := 7) sc_law_kernel.nd rfl (.inl rfl) pe_int)
      (pss_cons (ps_for PassesOwn.never (by rfl) (pi_zipA (by rfl) T.z_zip (pa_cons (pv 2) (pa_cons (pv 3) pa_nil))) (pg_tup (by rfl) (pgs_cons (pg_name (i := 8) sc_law_kernel.nd rfl (.inl rfl)) (pgs_cons (pg_name (i := 9) sc_law_kernel.nd rfl (.inl rfl)) pgs_nil)))
        (pss_one (ps_set (i := 7) sc_law_kernel.nd rfl (.inl rfl) (pe_op op_mulW (pv 7) (pe_op FDivQ.op_fdivQ (pe_ix ix_tup (pv 8) (pv 9) (fun _ _ => rfl)) (pe_call G_law_gcd (hr.mono (by decide)) (by rfl) T.g_law_gcd T.F_law_gcd.kp T.b_law_gcd .nil pass0 (pa_cons (pv 7) (pa_cons (pe_ix ix_tup (pv 8) (pv 9) (fun _ _ => rfl)) pa_nil))))))))
      (pss_cons (ps_setLc (i := 10) (own := [("_law_place", 6)]) (g := (gName 6)) (tt := tYes) rfl sc_law_kernel.nd rfl rfl (sw_true rfl rfl rfl (by decide +kernel)) (pi_range1 (by rfl) T.z_range (pa_cons (pv 1) pa_nil)) (blkOk_by (N := N_law_kernel) (sc := defScope s_law_kernel) (by decide +kernel)) (fun _ _ _ _ _ => (pg_name (i := 6) sc_law_kernel.nd rfl (.inl rfl))) (fun _ _ _ _ _ => pts_nil) (fun _ _ _ _ _ => pe_int))
      (pss_cons (ps_asg (pv 7) (pg_sub (pv 10) (pv 5) set_list))
      (pss_cons (ps_for PassesOwn.never (by rfl) (pi_zipA (by rfl) T.z_zip (pa_cons (pv 2) (pa_cons (pv 3) pa_nil))) (pg_tup (by rfl) (pgs_cons (pg_name (i := 8) sc_law_kernel.nd rfl (.inl rfl)) (pgs_cons (pg_name (i := 9) sc_law_kernel.nd rfl (.inl rfl)) pgs_nil)))
        (pss_one (ps_asg (pe_op op_sub pe_int (pe_op FDivQ.op_fdivQ (pe_op op_mulW (pv 7) (pe_ix ix_tup (pv 8) (pv 5) (fun _ _ => rfl))) (pe_ix ix_tup (pv 8) (pv 9) (fun _ _ => rfl)))) (pg_sub (pv 10) (pv 9) set_list))))
      (pss_one (ps_expr (pe_bm PySem.F.plainAttrs_list PySem.F.slot_list_append PySem.F.type_list_append mt_append (pv 4) (pa_cons (pe_tupleOf (by rfl) T.z_tuple (pv 10)) pa_nil))))))))))
    (pss_one (ps_ret (pe_call G_law_cleared hr (by rfl) T.g_law_cleared T.F_law_cleared.kp T.b_law_cleared .nil pass0 (pa_cons (pv 4) (pa_cons (pv 1) pa_nil))))))))), ?_⟩
    refine ⟨_, rfl, _, rfl, t, as, rows, n, rfl, .inl hS, hA, hl, hn, hw, ok, fun p bs H1 s1 e1 r1 => ?_⟩
    have hTl : (ech lless rows n).length ≤ 100 := by
      unfold ech
      rw [List.length_map]
      have := eS_cnt lless rows n
      omega
    generalize ech lless rows n = Tl at hT hk ok2 q r1 hTl ⊢
    have blen := RX.len r1
    refine ⟨_, rfl, p, bs, Tl, n, rfl, e1, r1, hTl, hn, hT, fun L H2 s2 l2 => ?_⟩
    have s3 : Same H H2 := fun b o e => s2 _ _ (s1 _ _ e)
    have e3 := s2 _ _ e1
    have r3 := r1.same s2
    clear s2 s1 e1 r1
    dsimp only [tCons, tLst, tNil]
    refine ⟨by decide, fun F hF => ⟨(show 2 ≤ sizeLine by decide), fun U hU => ?_⟩⟩
    refine ⟨U, _, rfl, SqT.of upd_same, rfl, _, _, rfl, _, _, rfl, rfl, ?_⟩
    have nF : ∀ b o, H b = some o → b ≠ F := fun b o e => ne_of_none (s3 _ _ e) hF
    have pF : p ≠ F := ne_of_none e3 hF
    have bF : ∀ a ∈ bs, a ≠ F := fun a ha => by
      obtain ⟨r, _, e⟩ := RX.memA r3 ha
      exact ne_of_none e hF
    have nLF : L ≠ F := ne_of_none l2 hF
    have sU : Same H2 (upd (upd H2 F (.lst [])) U (.tup [V.ref L, V.ref F])) := fun b o e => same_upd0 hU _ _ (same_upd0 hF _ _ e)
    have f4 := same_upd0 (o := .tup [V.ref L, V.ref F]) hU _ _ (show (upd H2 F (.lst [])) F = some (.lst []) from upd_same)
    have s4 : Same H _ := fun b o e => sU _ _ (s3 _ _ e)
    have e4 := sU _ _ e3
    have l4 := sU _ _ l2
    have r4 := r3.same sU
    generalize upd (upd H2 F (.lst [])) U (.tup [V.ref L, V.ref F]) = H4 at s4 e4 l4 r4 f4 ⊢
    clear sU hU s3 e3 l2 r3 hF
    refine ⟨_, rfl, _, rfl, by omega, by omega, fun D hD => ?_⟩
    refine lc_range (n := n) (fun j H' => Same H4 H' ∧ H' D = some (.lst ((frees Tl j).map fun p : Nat => V.int (p : Int)))) ⟨same_upd0 hD, upd_same⟩ (fun j H' hj hP => ?_) (fun H5 hP => ?_)
    · obtain ⟨sH, hL'⟩ := hP
      rw [Int.zero_add]
      refine ⟨rfl, _, rfl, _, rfl, L, _, rfl, .inl (SqL.of (sH _ _ l4)), rfl, flat_ints _, _, rfl, ?_⟩
      rw [if_pos rfl, inV_ld]
      unfold frees at hL' ⊢
      rw [List.range_succ, List.filter_append]
      cases d : (Tl.map ld).contains j with
      | true =>
        refine iteF ⟨sH, ?_⟩
        rw [hL', List.filter_cons_of_neg (by simp only [d, Bool.not_true, Bool.false_eq_true, not_false_eq_true]), List.filter_nil, List.append_nil]
      | false =>
        refine iteT ⟨_, rfl, _, hL', ?_, fun b o e => ?_, ?_⟩
        · rw [List.length_map]
          have h1 := List.length_filter_le (fun p => !(Tl.map ld).contains p) (List.range j)
          rw [List.length_range] at h1
          exact small1000 (by omega)
        · rw [upd_ne (ne_of_none e hD)]
          exact sH _ _ e
        · rw [upd_same, List.filter_cons_of_pos (by simp only [d, Bool.not_false]), List.filter_nil, List.map_append]
          rfl
    · obtain ⟨s5, d5⟩ := hP
      have e5 := s5 _ _ e4
      have l5 := s5 _ _ l4
      have f5 := s5 _ _ f4
      have r5 := r4.same s5
      have s5' : Same H H5 := fun b o e => s5 _ _ (s4 _ _ e)
      have nDF : D ≠ F := fun e => by
        rw [e, f4] at hD
        cases hD
      clear s5 e4 l4 f4 r4 s4
      refine ⟨D, rfl, ⟨_, SqL.of d5⟩, for_list (xs := (frees Tl n).map fun p : Nat => V.int (p : Int)) (fun i σ H' => ∃ fs y5 y7 y8 y9 y10, σ = [some (.ref t), some (.int n), some (.ref p), some (.ref L), some (.ref F), y5, none, y7, y8, y9, y10] ∧ Same H H' ∧ H' p = some (.lst (bs.map V.ref)) ∧ H' L = some (.lst ((Tl.map fun t => (ld t : Int)).map V.int)) ∧ RT H' bs Tl ∧ H' D = some (.lst ((frees Tl n).map fun p : Nat => V.int (p : Int))) ∧ H' F = some (.lst (fs.map V.ref)) ∧ RT H' fs (((frees Tl n).take i).map (lkone Tl n)) ∧ ∀ a ∈ fs, a ≠ F) ⟨[], none, none, none, none, none, rfl, s5', e5, l5, r5, d5, f5, True.intro, fun a ha => absurd ha List.not_mem_nil⟩ (fun i σ H' _ hP => by
        obtain ⟨fs, y5, y7, y8, y9, y10, _, _, _, _, _, d6, _⟩ := hP
        exact SqL.of d6) (fun i x σ H6 hx hP => ?_) (fun σ H6 hP => ?_)⟩
      · obtain ⟨fs, y5, y7, y8, y9, y10, rfl, s6, e6, l6, r6, d6, f6, g6, n6⟩ := hP
        rw [List.getElem?_map] at hx
        obtain ⟨fr, hfr, rfl⟩ := Option.map_eq_some_iff.mp hx
        have hfn := frees_lt (List.mem_of_getElem? hfr)
        refine ⟨_, rfl, _, rfl, p, L, bs.map V.ref, (Tl.map fun t => (ld t : Int)).map V.int, rfl, .inl ⟨SqL.of e6, SqL.of l6, for_zipL (xs := bs.map V.ref) (ys := (Tl.map fun t => (ld t : Int)).map V.int) (by rw [List.length_map, List.length_map, List.length_map, blen]) (fun i σ H' => ∃ y8 y9, σ = [some (.ref t), some (.int n), some (.ref p), some (.ref L), some (.ref F), some (.int (fr : Nat)), none, some (.int (whl (Tl.take i))), y8, y9, y10] ∧ Same H6 H') ⟨y8, y9, rfl, fun _ _ e => e⟩ (fun i σ H' hP => by
          obtain ⟨y5, y7, _, sH⟩ := hP
          exact ⟨SqL.of (sH _ _ e6), SqL.of (sH _ _ l6)⟩) (fun i x y A σ H' hx hy hP hA => ?_) (fun σ H7 hP => ?_)⟩⟩
        · obtain ⟨y8, y9, rfl, sH⟩ := hP
          rw [List.getElem?_map] at hx
          obtain ⟨a, ha, rfl⟩ := Option.map_eq_some_iff.mp hx
          obtain ⟨a', r, g1, g2, g3⟩ := RX.get r6 (by rw [← blen]; exact (List.getElem?_eq_some_iff.mp ha).1)
          rw [ha] at g1
          cases g1
          rw [List.getElem?_map, List.getElem?_map, g2] at hy
          obtain rfl : V.int (ld r : Int) = y := Option.some.inj hy
          have hr2 := hT r (List.mem_of_getElem? g2)
          have sA := same_upd0 (o := .tup [.ref a, .int (ld r : Int)]) hA
          have gA := sA _ _ (sH _ _ g3)
          have k1 := hk.c1 _ _ _ (take_split g2)
          have k2 := hk.m1 _ _ _ (take_split g2)
          have ix : atI (r.map V.int) ((ld r : Nat) : Int) = some (.int (le0 r)) := atI_nat (get_int (by rw [hr2.1]; exact hr2.2))
          refine ⟨A, _, rfl, SqT.of upd_same, rfl, _, _, rfl, _, _, rfl, rfl, _, rfl, _, rfl, _, rfl, a, _, _, .int (le0 r), rfl, rfl, SqT.of gA, ix, _, rfl, _, rfl, _, rfl, a, _, _, .int (le0 r), rfl, rfl, SqT.of gA, ix, _, _, rfl, _, _, rfl, rfl, k1, _, _, rfl, rfl, k2, some (.ref a), some (.int (ld r : Nat)), ?_, fun b o e => sA _ _ (sH _ _ e)⟩
          rw [List.take_add_one, g2, show (some r).toList = [r] from rfl, whl_snoc]
          rfl
        · obtain ⟨y8, y9, rfl, s7⟩ := hP
          rw [List.length_map, blen, List.take_length]
          refine ⟨_, rfl, _, rfl, by omega, by omega, fun O hO => ?_⟩
          have nO : H6 O = none := by
            cases e : H6 O with
            | none => rfl
            | some o =>
              rw [s7 _ _ e] at hO
              cases hO
          refine lc_range (n := n) (fun j H' => Same H6 H' ∧ H' O = some (ls (List.replicate j 0))) ⟨fun b o e => same_upd0 hO _ _ (s7 _ _ e), upd_same⟩ (fun j H' hj hP => ?_) (fun H7 hP => ?_)
          · obtain ⟨sH, hO'⟩ := hP
            refine ⟨rfl, _, hO', ?_, fun b o e => ?_, ?_⟩
            · rw [List.length_map, List.length_replicate]
              exact small1000 (by omega)
            · rw [upd_ne (ne_of_none e nO)]
              exact sH _ _ e
            · rw [upd_same, ls, List.replicate_succ', List.map_append]
              rfl
          · obtain ⟨s7, o7⟩ := hP
            refine ⟨_, rfl, _, rfl, _, rfl, O, _, _, fr, rfl, rfl, o7, ixN_at (by rw [List.length_map, List.length_replicate]; exact hfn), ?_⟩
            have s8 : Same H6 (upd H7 O (.lst (((List.replicate n (0 : Int)).map V.int).set fr (.int (whl Tl))))) := fun b o e => by
              rw [upd_ne (ne_of_none e nO)]
              exact s7 _ _ e
            have o8 : (upd H7 O (.lst (((List.replicate n (0 : Int)).map V.int).set fr (.int (whl Tl))))) O = some (ls (k0 (whl Tl) n fr)) := by
              rw [upd_same, k0, ls, List.map_set]
            generalize upd H7 O (.lst (((List.replicate n (0 : Int)).map V.int).set fr (.int (whl Tl)))) = H8 at s8 o8 ⊢
            clear s7 o7
            refine ⟨_, rfl, _, rfl, p, L, bs.map V.ref, (Tl.map fun t => (ld t : Int)).map V.int, rfl, .inl ⟨SqL.of (s8 _ _ e6), SqL.of (s8 _ _ l6), for_zipL (xs := bs.map V.ref) (ys := (Tl.map fun t => (ld t : Int)).map V.int) (by rw [List.length_map, List.length_map, List.length_map, blen]) (fun i σ H' => ∃ y8 y9, σ = [some (.ref t), some (.int n), some (.ref p), some (.ref L), some (.ref F), some (.int (fr : Nat)), none, some (.int (whl Tl)), y8, y9, some (.ref O)] ∧ Same H6 H' ∧ H' O = some (ls ((Tl.take i).foldl (lst' (whl Tl) fr) (k0 (whl Tl) n fr)))) ⟨y8, y9, rfl, s8, o8⟩ (fun i σ H' hP => by
              obtain ⟨y5, y7, _, sH, _⟩ := hP
              exact ⟨SqL.of (sH _ _ e6), SqL.of (sH _ _ l6)⟩) (fun i x y A σ H' hx hy hP hA => ?_) (fun σ H9 hP => ?_)⟩⟩
            · obtain ⟨y8, y9, rfl, sH, oH⟩ := hP
              rw [List.getElem?_map] at hx
              obtain ⟨a, ha, rfl⟩ := Option.map_eq_some_iff.mp hx
              obtain ⟨a', r, g1, g2, g3⟩ := RX.get r6 (by rw [← blen]; exact (List.getElem?_eq_some_iff.mp ha).1)
              rw [ha] at g1
              cases g1
              rw [List.getElem?_map, List.getElem?_map, g2] at hy
              obtain rfl : V.int (ld r : Int) = y := Option.some.inj hy
              have hm := List.mem_of_getElem? g2
              have hr2 := hT r hm
              have sA := same_upd0 (o := .tup [.ref a, .int (ld r : Int)]) hA
              have gA := sA _ _ (sH _ _ g3)
              have ix : atI (r.map V.int) ((ld r : Nat) : Int) = some (.int (le0 r)) := atI_nat (get_int (by rw [hr2.1]; exact hr2.2))
              have ix2 : atI (r.map V.int) ((fr : Nat) : Int) = some (.int (co r fr)) := atI_nat (get_int (by rw [hr2.1]; exact hfn))
              have fl : (List.foldl (lst' (whl Tl) fr) (k0 (whl Tl) n fr) (Tl.take i)).length = n := by rw [fold_len (lst_len _ _), k0_len]
              refine ⟨A, _, rfl, SqT.of upd_same, rfl, _, _, rfl, _, _, rfl, rfl, _, rfl, _, rfl, _, rfl, a, _, _, .int (co r fr), rfl, rfl, SqT.of gA, ix2, _, _, rfl, rfl, hk.m3 r hm fr, _, rfl, _, rfl, a, _, _, .int (le0 r), rfl, rfl, SqT.of gA, ix, _, _, rfl, rfl, hk.c3 r hm fr, _, _, rfl, rfl, _, rfl, _, rfl, O, _, _, ld r, rfl, rfl, sA _ _ oH, ixN_at (by rw [List.length_map, fl]; exact hr2.2), some (.ref a), some (.int (ld r : Nat)), rfl, fun b o e => ?_, ?_⟩
              · rw [upd_ne (ne_of_none e nO)]
                exact sA _ _ (sH _ _ e)
              · rw [upd_same, List.take_add_one, g2, List.foldl_append]
                show some (HO.lst _) = some (HO.lst ((lst' (whl Tl) fr _ r).map V.int))
                unfold lst'
                rw [List.map_set]
            · obtain ⟨y8, y9, rfl, sH, oH⟩ := hP
              rw [List.length_map, blen, List.take_length] at oH
              have oH : H9 O = some (ls (lkone Tl n fr)) := oH
              have fl := g6.len
              rw [List.length_map] at fl
              have hi : i < (frees Tl n).length := (List.getElem?_eq_some_iff.mp hfr).1
              have hi2 := frees_len Tl n
              rw [List.length_take] at fl
              have fH := sH _ _ f6
              refine ⟨_, rfl, .inl ⟨rfl, _, SqL.of fH⟩, ?_⟩
              refine ⟨_, rfl, .inl ⟨O, _, rfl, SqL.of oH, fun N hN => ?_⟩⟩
              have sN : Same H6 (upd H9 N (.tup ((lkone Tl n fr).map V.int))) := fun b o e => same_upd0 hN _ _ (sH _ _ e)
              have fN := sN _ _ f6
              have nNF : N ≠ F := fun e => by
                rw [e, fH] at hN
                cases hN
              refine ⟨F, _, _, rfl, rfl, fN, by rw [List.length_map]; exact small1000 (by omega), fs ++ [N], _, _, y8, y9, _, rfl, fun b o e => ?_, ?_, ?_, (r6.same sN).updN bF, ?_, ?_, ?_, fun a ha => ?_⟩
              · rw [upd_ne (nF b o e)]
                exact sN _ _ (s6 b o e)
              · rw [upd_ne pF]
                exact sN _ _ e6
              · rw [upd_ne nLF]
                exact sN _ _ l6
              · rw [upd_ne nDF]
                exact sN _ _ d6
              · rw [upd_same, List.map_append]
                rfl
              · rw [List.take_add_one, hfr, List.map_append]
                refine RX.snoc ((g6.same sN).updN n6) ?_
                show upd (upd H9 N _) F _ N = _
                rw [upd_ne nNF, upd_same]
              · rcases List.mem_append.mp ha with ha | ha
                · exact n6 a ha
                · rw [List.mem_singleton.mp ha]
                  exact nNF
      · obtain ⟨fs, y5, y7, y8, y9, y10, rfl, s6, e6, l6, r6, d6, f6, g6, n6⟩ := hP
        rw [List.length_map, List.take_length] at g6
        have g6 : RT H6 fs (lkvs Tl n) := g6
        have hi2 := frees_len Tl n
        refine ⟨_, rfl, _, rfl, F, fs, lkvs Tl n, n, rfl, .inr f6, RX.imp (fun a r e => .inl e) g6, by unfold lkvs; rw [List.length_map]; omega, hn, fun r hr => ?_, ok2, fun p bs H' s7 e7 r7 => q p bs H' (fun b o e => s7 _ _ (s6 _ _ e)) e7 r7⟩
        obtain ⟨f, hf, rfl⟩ := List.mem_map.mp hr
        exact lkone_len _ _ _
end
end K01

set_option Elab.async false
set_option linter.all false
set_option maxRecDepth 100000
set_option maxHeartbeats 4000000
namespace K01
open PySem PySem.Spec PyProof.Rows L2 StX RZ MyR SlX OwnR OwnF EnumT GxR GenNx FDivQ
/-- at t a tuple of tuples of ints -/
def Tl2 (H : Hp) (t : Addr) (rows : List (List Int)) : Prop := ∃ as : List Addr, H t = some (.tup (as.map V.ref)) ∧ RT H as rows
theorem Tl2.same {H H' : Hp} {t : Addr} {rows : List (List Int)} (h : Tl2 H t rows) (s : Same H H') : Tl2 H' t rows := by
  obtain ⟨as, h1, h2⟩ := h
  exact ⟨as, s _ _ h1, h2.same s⟩
theorem RT.sts {Ps : List Addr} {H H' : Hp} {as : List Addr} {rs : List (List Int)} (h : RT H as rs) (s : Sts Ps H H') (g : Tg Ps H) : RT H' as rs := RX.imp (fun a r e => s.tup g e) h
theorem Tl2.sts {Ps : List Addr} {H H' : Hp} {t : Addr} {rows : List (List Int)} (h : Tl2 H t rows) (s : Sts Ps H H') (g : Tg Ps H) : Tl2 H' t rows := by
  obtain ⟨as, h1, h2⟩ := h
  exact ⟨as, s.tup g h1, h2.sts s g⟩
/-- the sizes of a table -/
structure Tz (rows : List (List Int)) (n : Nat) : Prop where
  l1 : 1 ≤ rows.length
  l2 : rows.length ≤ 24
  n1 : 1 ≤ n
  n2 : n ≤ 24
  ln : ∀ r ∈ rows, r.length = n
  sh : ∀ r ∈ rows, ∀ x ∈ r, Sho x
section
variable {P : Program} {w : World} {K : PySem.W.Frag} {mg : Str → Option Value} {base : Heap} {Ps : List Addr}
def spIsTab : Sp := fun vs H Q _ => ∃ (t : Addr) (rows : List (List Int)) (n : Nat), vs = [.ref t] ∧ Tl2 H t rows ∧ Tz rows n ∧ ∀ H', Same H H' → Q (.bl true) H'
theorem ok_is_table_in (T : Facts K mg) : FnOk P w K mg base CX0 3 T.f_is_table_in T.fd_is_table_in ["value"] spIsTab := by
  have G_is_short : FnOk P w K mg base CX0 2 T.f_is_short T.fd_is_short ["value"] spShort := ok_is_short T
  refine T.F_is_table_in.ok sc_is_table_in (fun vs H Q E h => ?_) (fun cdv A outer s H vs Q E hr h => ?_)
  · obtain ⟨t, rows, n, rfl, _⟩ := h
    rfl
  · obtain ⟨t, rows, n, rfl, ⟨as, ht, hA⟩, z, q⟩ := h
    refine ⟨_, (PSs.nox (pss_cons (ps_if (pw_or (pt_not (pt_val (pe_callB call_isi (by rfl) T.z_isinstance (by decide +kernel) (pa_cons (pv 0) (pa_cons (pe_bltn (v := .ty "tuple") (by rfl) T.z_tuple (by decide +kernel) rfl) pa_nil))))) (pw_or1 (pt_not (pt_chain op_le op_le pe_int (pe_callB call_len_seq (by rfl) T.z_len (by decide +kernel) (pa_cons (pv 0) pa_nil)) (pe_glob (v := .int 24) (by rfl) T.c_MAX_SIDE.choose_spec ⟨_, rfl⟩))))).pt
      (pss_one (ps_ret pe_bl))
      pss_nil)
    (pss_cons (ps_for PassesOwn.never (by rfl) (pi_tup (pv 0)) (pg_name (i := 1) sc_is_table_in.nd rfl (.inl rfl))
      (pss_cons (ps_if (pw_or (pt_not (pt_val (pe_callB call_isi (by rfl) T.z_isinstance (by decide +kernel) (pa_cons (pv 1) (pa_cons (pe_bltn (v := .ty "tuple") (by rfl) T.z_tuple (by decide +kernel) rfl) pa_nil))))) (pw_or (pt_not (pt_chain op_le op_le pe_int (pe_callB call_len_seq (by rfl) T.z_len (by decide +kernel) (pa_cons (pv 1) pa_nil)) (pe_glob (v := .int 24) (by rfl) T.c_MAX_SIDE.choose_spec ⟨_, rfl⟩))) (pw_or1 (pt_cmpR op_ne (pe_callB call_len_seq (by rfl) T.z_len (by decide +kernel) (pa_cons (pv 1) pa_nil)) (pe_callB call_len_seq (by rfl) T.z_len (by decide +kernel) (pa_cons (pe_ix ix_tup (pv 0) pe_int (fun _ _ => rfl)) pa_nil)) (nomark _))))).pt
        (pss_one (ps_ret pe_bl))
        pss_nil)
      (pss_one (ps_if (pt_not (pt_val (pe_callB (cr_all (by rfl)) (by rfl) T.z_all (by decide +kernel) (pa_cons (pe_lc (own := [("entry", 2)]) (g := (gName 2)) (tt := tYes) (by rfl) sc_is_table_in.nd (pi_tup (pv 1)) (blkOk_by (N := N_is_table_in) (sc := defScope s_is_table_in) (by decide +kernel)) (fun _ _ _ _ _ => (pg_name (i := 2) sc_is_table_in.nd rfl (.inl rfl))) (fun _ _ _ _ _ => pts_nil) (fun _ _ _ _ _ => (pe_call G_is_short hr (by rfl) T.g_is_short T.F_is_short.kp T.b_is_short .nil pass0 (pa_cons (pv 2) pa_nil)))) pa_nil))))
        (pss_one (ps_ret pe_bl))
        pss_nil))))
    (pss_one (ps_ret pe_bl))))), ?_⟩
    have alen := RX.len hA
    have z1 := z.l1
    have z2 := z.l2
    have z3 := z.n1
    have z4 := z.n2
    refine ⟨_, rfl, .ref t, .ty "tuple", .type "tuple", .type "tuple", true, rfl, .ty "tuple", .base (.tup ht), kit_ty (show kitB "tuple" "tuple" = some true by decide +kernel), true, rfl, iteF ?_⟩
    refine ⟨_, rfl, t, _, rfl, .inr (SqT.of ht), 1, _, rfl, rfl, true, ?_, iteT ⟨_, _, rfl, rfl, ?_⟩⟩
    · rw [List.length_map]
      show V.bl (decide ((1 : Int) ≤ (as.length : Int))) = V.bl true
      rw [decide_eq_true (by omega)]
    refine ⟨_, rfl, ?_⟩
    rw [List.length_map, decide_eq_true (show ((as.length : Nat) : Int) ≤ 24 by omega)]
    refine iteF ?_
    refine ⟨_, rfl, t, rfl, ⟨_, SqT.of ht⟩, for_tup (xs := as.map V.ref) (fun i σ H' => ∃ y1, σ = [some (.ref t), y1, none] ∧ Same H H') ⟨none, rfl, fun _ _ e => e⟩ (fun i σ H' _ hP => by
      obtain ⟨_, _, sH⟩ := hP
      exact SqT.of (sH _ _ ht)) (fun i x σ H' hx hP => ?_) (fun σ H' hP => ?_)⟩
    · obtain ⟨y1, rfl, sH⟩ := hP
      rw [List.getElem?_map] at hx
      obtain ⟨a, ha, rfl⟩ := Option.map_eq_some_iff.mp hx
      obtain ⟨a', r, g1, g2, g3⟩ := RX.get hA (by rw [← alen]; exact (List.getElem?_eq_some_iff.mp ha).1)
      rw [ha] at g1
      cases g1
      obtain ⟨a0, r0, k1, k2, k3⟩ := RX.get hA (i := 0) (by omega)
      have gH := sH _ _ g3
      have kH := sH _ _ k3
      have rl := z.ln r (List.mem_of_getElem? g2)
      have rs := z.sh r (List.mem_of_getElem? g2)
      have rl0 := z.ln r0 (List.mem_of_getElem? k2)
      refine ⟨_, rfl, .ref a, .ty "tuple", .type "tuple", .type "tuple", true, rfl, .ty "tuple", .base (.tup gH), kit_ty (show kitB "tuple" "tuple" = some true by decide +kernel), true, rfl, iteF ?_⟩
      refine ⟨_, rfl, a, _, rfl, .inr (SqT.of gH), 1, _, rfl, rfl, true, ?_, iteT ⟨_, _, rfl, rfl, ?_⟩⟩
      · rw [List.length_map]
        show V.bl (decide ((1 : Int) ≤ (r.length : Int))) = V.bl true
        rw [decide_eq_true (by omega)]
      refine ⟨_, rfl, ?_⟩
      rw [List.length_map, decide_eq_true (show ((r.length : Nat) : Int) ≤ 24 by omega)]
      refine iteF ?_
      refine ⟨_, rfl, a, _, rfl, .inr (SqT.of gH), _, rfl, t, _, 0, .ref a0, rfl, rfl, SqT.of (sH _ _ ht), atI_nat (j := 0) (by rw [List.getElem?_map, k1]; rfl), a0, _, rfl, .inr (SqT.of kH), rfl, _, rfl, ?_⟩
      rw [List.length_map, List.length_map, rl, rl0, decide_eq_true rfl]
      refine iteF ?_
      dsimp only [tNext]
      refine ⟨_, rfl, a, rfl, ⟨_, SqT.of gH⟩, fun D hD => lc_tup (xs := r.map V.int) (fun i H2 => H2 = upd H' D (.lst (List.replicate i (V.bl true)))) rfl (fun i H2 hi hP => ?_) (fun i x H2 hi hP => ?_) (fun H2 hP => ?_)⟩
      · rw [hP]
        exact SqT.of (same_upd0 hD _ _ gH)
      · subst hP
        rw [List.getElem?_map] at hi
        obtain ⟨y, hy, rfl⟩ := Option.map_eq_some_iff.mp hi
        have hlt : i < r.length := (List.getElem?_eq_some_iff.mp hy).1
        refine ⟨rfl, ⟨_, rfl, y, rfl, rs y (List.mem_of_getElem? hy), _, upd_same, ?_, ?_⟩⟩
        · rw [List.length_replicate]
          exact small1000 (by omega)
        · rw [upd_upd, List.replicate_succ']
      · subst hP
        rw [List.length_map]
        refine ⟨D, List.replicate r.length true, rfl, SqL.of (by rw [upd_same, List.map_replicate]), true, ?_, iteF ⟨_, rfl, fun b o e => same_upd0 hD _ _ (sH _ _ e)⟩⟩
        have e : (List.replicate r.length true).all id = true := by
          rw [List.all_eq_true]
          intro x hx
          rw [(List.mem_replicate.mp hx).2]
          rfl
        rw [e]
    · obtain ⟨y1, rfl, sH⟩ := hP
      exact q H' sH
theorem ok_require_rows (T : Facts K mg) : FnOk P w K mg base CX0 4 T.f_require_rows T.fd_require_rows ["value"] (fun vs H Q _ => ∃ (t : Addr) (rows : List (List Int)) (n : Nat), vs = [.ref t] ∧ Tl2 H t rows ∧ Tz rows n ∧ ∀ H', Same H H' → Q .non H') := by
  have G_is_table_in := ok_is_table_in (P := P) (w := w) (base := base) T
  refine T.F_require_rows.ok sc_require_rows (fun vs H Q E h => ?_) (fun cdv A outer s H vs Q E hr h => ?_)
  · obtain ⟨t, rows, n, rfl, _⟩ := h
    rfl
  · obtain ⟨t, rows, n, rfl, hA, z, q⟩ := h
    refine ⟨_, (PSs.nox (pss_one (ps_if (pt_not (pt_val (pe_call G_is_table_in hr (by rfl) T.g_is_table_in T.F_is_table_in.kp T.b_is_table_in .nil pass0 (pa_cons (pv 0) pa_nil))))
      (pss_one ps_never)
      pss_nil))), ?_⟩
    exact ⟨_, rfl, t, rows, n, rfl, hA, z, fun H' s' => ⟨true, rfl, iteF (q H' s')⟩⟩
theorem ok_is_table (T : Facts K mg) : FnOk P w K mg base CX0 4 T.f_is_table T.fd_is_table ["value"] spIsTab := by
  have G_is_table_in := ok_is_table_in (P := P) (w := w) (base := base) T
  refine T.F_is_table.ok sc_is_table (fun vs H Q E h => ?_) (fun cdv A outer s H vs Q E hr h => ?_)
  · obtain ⟨t, rows, n, rfl, _⟩ := h
    rfl
  · obtain ⟨t, rows, n, rfl, hA, z, q⟩ := h
    refine ⟨_, (PSs.nox (pss_one (ps_ret (pe_call G_is_table_in hr (by rfl) T.g_is_table_in T.F_is_table_in.kp T.b_is_table_in .nil pass0 (pa_cons (pv 0) pa_nil))))), ?_⟩
    exact ⟨_, rfl, t, rows, n, rfl, hA, z, q⟩
def spRankT (Ps : List Addr) : Sp := fun vs H Q _ => ∃ (t : Addr) (rows : List (List Int)) (n : Nat), vs = [.ref t] ∧ Tl2 H t rows ∧ Tz rows n ∧ EOk less rows n ∧ Tg Ps H ∧ ∀ H', Sts Ps H H' → Tg Ps H' → Q (.int ((ech less rows n).length : Nat)) H'
theorem ok_rank (T : Facts K mg) (TB_first_of : TabB base mg T.c_first_of T.P_first_of) (hP : T.P_first_of ∈ Ps) : FnOk P w K mg base CX0 5 T.f_rank T.fd_rank ["table"] (spRankT Ps) := by
  have G_require_rows := ok_require_rows (P := P) (w := w) (base := base) T
  have G_rank_of := ok_rank_of (P := P) (w := w) (base := base) T TB_first_of hP
  refine T.F_rank.ok sc_rank (fun vs H Q E h => ?_) (fun cdv A outer s H vs Q E hr h => ?_)
  · obtain ⟨t, rows, n, rfl, _⟩ := h
    rfl
  · obtain ⟨t, rows, n, rfl, hA, z, ok, hG, q⟩ := h
    refine ⟨_, (PSs.nox (pss_cons (ps_expr (pe_call G_require_rows hr (by rfl) T.g_require_rows T.F_require_rows.kp T.b_require_rows .nil pass0 (pa_cons (pv 0) pa_nil)))
    (pss_one (ps_ret (pe_call G_rank_of hr (by rfl) T.g_rank_of T.F_rank_of.kp T.b_rank_of .nil pass0 (pa_cons (pv 0) (pa_cons (pe_callB call_len_seq (by rfl) T.z_len (by decide +kernel) (pa_cons (pe_ix ix_tup (pv 0) pe_int (fun _ _ => rfl)) pa_nil)) pa_nil))))))), ?_⟩
    refine ⟨_, rfl, t, rows, n, rfl, hA, z, fun H1 s1 => ?_⟩
    obtain ⟨as, ht, hR⟩ := hA.same s1
    obtain ⟨a0, r0, k1, k2, k3⟩ := RX.get hR (i := 0) z.l1
    have z2 := z.l2
    have z4 := z.n2
    refine ⟨_, rfl, _, rfl, t, _, 0, .ref a0, rfl, rfl, SqT.of ht, atI_nat (j := 0) (by rw [List.getElem?_map, k1]; rfl), a0, _, rfl, .inr (SqT.of k3), ?_⟩
    rw [List.length_map, z.ln r0 (List.mem_of_getElem? k2)]
    exact ⟨t, as, rows, n, rfl, .inl ht, RX.imp (fun a r e => .inl e) hR, by omega, by omega, z.ln, ok, hG.same s1, fun H2 s2 t2 => q H2 ((Sts.of s1).trans s2) t2⟩
/-- what a kernel asks -/
structure KP (rows : List (List Int)) (n : Nat) : Prop where
  z : Tz rows n
  e : EOk less rows n
  t : ∀ t ∈ ech less rows n, t.length = n ∧ ld t < n
  k : KOk (ech less rows n)
  e2 : EOk less (kvs (ech less rows n) n) n
def kern (rows : List (List Int)) (n : Nat) : List (List Int) := ech less (kvs (ech less rows n) n) n
def spKernT (Ps : List Addr) : Sp := fun vs H Q _ => ∃ (t : Addr) (rows : List (List Int)) (n : Nat), vs = [.ref t] ∧ Tl2 H t rows ∧ KP rows n ∧ Tg Ps H ∧ ∀ p H', Sts Ps H H' → Tg Ps H' → Tl2 H' p (kern rows n) → Q (.ref p) H'
theorem ok_kernel (T : Facts K mg) (TB_first_of : TabB base mg T.c_first_of T.P_first_of) (hP : T.P_first_of ∈ Ps) : FnOk P w K mg base CX0 5 T.f_kernel T.fd_kernel ["table"] (spKernT Ps) := by
  have G_require_rows := ok_require_rows (P := P) (w := w) (base := base) T
  have G_kernel_rows := ok_kernel_rows (P := P) (w := w) (base := base) T TB_first_of hP
  refine T.F_kernel.ok sc_kernel (fun vs H Q E h => ?_) (fun cdv A outer s H vs Q E hr h => ?_)
  · obtain ⟨t, rows, n, rfl, _⟩ := h
    rfl
  · obtain ⟨t, rows, n, rfl, hA, kp, hG, q⟩ := h
    refine ⟨_, (PSs.nox (pss_cons (ps_expr (pe_call G_require_rows hr (by rfl) T.g_require_rows T.F_require_rows.kp T.b_require_rows .nil pass0 (pa_cons (pv 0) pa_nil)))
    (pss_one (ps_ret (pe_tupleOf (by rfl) T.z_tuple (pe_lc (own := [("row", 1)]) (g := (gName 1)) (tt := tYes) (by rfl) sc_kernel.nd (pi_list (pe_call G_kernel_rows hr (by rfl) T.g_kernel_rows T.F_kernel_rows.kp T.b_kernel_rows .nil pass0 (pa_cons (pv 0) (pa_cons (pe_callB call_len_seq (by rfl) T.z_len (by decide +kernel) (pa_cons (pe_ix ix_tup (pv 0) pe_int (fun _ _ => rfl)) pa_nil)) pa_nil)))) (blkOk_by (N := N_kernel) (sc := defScope s_kernel) (by decide +kernel)) (fun _ _ _ _ _ => (pg_name (i := 1) sc_kernel.nd rfl (.inl rfl))) (fun _ _ _ _ _ => pts_nil) (fun _ _ _ _ _ => (pe_tupleOf (by rfl) T.z_tuple (pv 1) : PE _ _ (tThen _ (kTup K)))))))))), ?_⟩
    refine ⟨_, rfl, t, rows, n, rfl, hA, kp.z, fun H1 s1 => ?_⟩
    obtain ⟨as, ht, hR⟩ := hA.same s1
    obtain ⟨a0, r0, k1, k2, k3⟩ := RX.get hR (i := 0) kp.z.l1
    have z2 := kp.z.l2
    have z4 := kp.z.n2
    refine ⟨_, rfl, _, rfl, t, _, 0, .ref a0, rfl, rfl, SqT.of ht, atI_nat (j := 0) (by rw [List.getElem?_map, k1]; rfl), a0, _, rfl, .inr (SqT.of k3), ?_⟩
    rw [List.length_map, kp.z.ln r0 (List.mem_of_getElem? k2)]
    refine ⟨t, as, rows, n, rfl, ht, RX.imp (fun a r e => .inl e) hR, by omega, by omega, kp.z.ln, kp.e, kp.t, kp.k, kp.e2, hG.same s1, fun L bs H2 s2 t2 l2 r2 => ?_⟩
    have hlen : (ech less (kvs (ech less rows n) n) n).length ≤ 100 := by
      unfold ech
      rw [List.length_map]
      have h1 := eS_cnt less (kvs (List.map prim (eS less rows n).snd) n) n
      have h2 := frees_len (List.map prim (eS less rows n).snd) n
      have h3 : (kvs (List.map prim (eS less rows n).snd) n).length = (frees (List.map prim (eS less rows n).snd) n).length := List.length_map ..
      omega
    refine ⟨L, rfl, ⟨_, SqL.of l2⟩, fun D hD => lc_rowsT (f := id) hD l2 r2 hlen (fun _ => rfl) (fun ad r H3 Q2 hr2 s8 e8 kq => ⟨_, rfl, .inl ⟨ad, _, rfl, SqL.of e8, fun p hp => kq p _ (same_upd0 hp) upd_same⟩⟩) (fun bs8 H8 s8 e8 r8 => .inl ⟨D, _, rfl, SqL.of e8, fun p hp => q p _ ?_ ?_ ⟨bs8, upd_same, ?_⟩⟩)⟩
    · exact ((Sts.of s1).trans s2).trans (Sts.of fun b o e => same_upd0 hp _ _ (s8 _ _ e))
    · exact t2.same fun b o e => same_upd0 hp _ _ (s8 _ _ e)
    · rw [List.map_id] at r8
      exact r8.same (same_upd0 hp)
end
end K01

set_option Elab.async false
set_option linter.all false
set_option maxRecDepth 100000
set_option maxHeartbeats 4000000
namespace K01
open PySem PySem.Spec PyProof.Rows L2 StX RZ MyR SlX OwnR OwnF EnumT GxR GenNx FDivQ
/-- a comprehension over range(n) that makes a row of each -/
theorem lc_rangeT {n : Nat} {f : Nat → List Int} {te : TE} {σ : L2.St} {k : Nat} {H1 : Hp} {D : Addr} {Qd : Hp → Prop} (hD : H1 D = none) (hl : n ≤ 100)
    (hw : ∀ x, wipe ((wipe σ [k]).set k (some x)) [k] = wipe σ [k])
    (hte : ∀ (i : Nat) (H2 : Hp) (Q : VK), i < n → Same H1 H2 → (∀ q H3, Same H2 H3 → H3 q = some (tp (f i)) → Q (.ref q) H3) → te ((wipe σ [k]).set k (some (.int (i : Nat)))) H2 Q)
    (hd : ∀ bs H6, Same H1 H6 → H6 D = some (.lst (bs.map V.ref)) → RT H6 bs ((List.range n).map f) → Qd H6) :
    ∃ W : Nat → Nat → Hp → Prop, (∃ m, W 0 m (upd H1 D (.lst []))) ∧ ∀ i m H, W i m H →
      ((Itr 0 n).stop i H ∧ Qd H) ∨ ((Itr 0 n).go i H ∧ ∃ Nx : Hp → Prop, (∀ H', Nx H' → ∃ m', m' < m ∧ W (i + 1) m' H') ∧ ∀ x H', (Itr 0 n).yld i H x H' → gName k x (wipe σ [k]) H' fun σ2 H2 => wipe σ2 [k] = wipe σ [k] ∧ tYes σ2 H2 fun b H3 =>
        if b = true then te σ2 H3 fun y H4 => ∃ acc, H4 D = some (.lst acc) ∧ acc.length < sizeLine ∧ Nx (upd H4 D (.lst (acc ++ [y]))) else Nx H3) := by
  refine lc_range (n := n) (fun j H' => ∃ bs, Same H1 H' ∧ H' D = some (.lst (bs.map V.ref)) ∧ bs.length = j ∧ RT H' bs ((List.range j).map f)) ⟨[], same_upd0 hD, upd_same, rfl, True.intro⟩ (fun j H' hj hP => ?_) (fun H' hP => ?_)
  · obtain ⟨bs, s1, h1, h2, h3⟩ := hP
    rw [Int.zero_add]
    refine ⟨hw _, ?_⟩
    show te _ _ _
    refine hte j H' _ hj s1 fun q H3 s3 e4 => ⟨bs.map V.ref, s3 _ _ h1, ?_, bs ++ [q], fun b o e => ?_, ?_, ?_, ?_⟩
    · rw [List.length_map, h2]
      exact small1000 (by omega)
    · rw [upd_ne (ne_of_none e hD)]
      exact s3 _ _ (s1 _ _ e)
    · rw [upd_same, List.map_append]
      rfl
    · rw [List.length_append, h2]
      rfl
    · rw [List.range_succ, List.map_append]
      have hD3 := s3 _ _ h1
      refine RX.snoc ((h3.same s3).updN fun a ha => ?_) ?_
      · obtain ⟨r, _, e⟩ := RX.memA (h3.same s3) ha
        intro z
        rw [z, hD3] at e
        cases e
      · show upd H3 D _ q = _
        rw [upd_ne fun z => by rw [z, hD3] at e4; cases e4]
        exact e4
  · obtain ⟨bs, s1, h1, h2, h3⟩ := hP
    exact hd bs H' s1 h1 h3
theorem lc_zipT {K : PySem.W.Frag} {a b : Addr} {xs ys : List V} {g : TG} {tt : TT} {te : TE} {vs : List Nat} {σ : L2.St} {H1 : Hp} {D : Addr} {Qd : Hp → Prop} (hl : xs.length = ys.length) (Pv : Nat → Hp → Prop) (h0 : Pv 0 (upd H1 D (.lst []))) (hq : ∀ i H, i ≤ xs.length → Pv i H → SqT K H a xs ∧ SqT K H b ys)
    (hs : ∀ (i : Nat) (x y : V) (T : Addr) (H : Hp), xs[i]? = some x → ys[i]? = some y → Pv i H → H T = none → g (.ref T) (wipe σ vs) (upd H T (.tup [x, y])) fun σ2 H2 => wipe σ2 vs = wipe σ vs ∧ tt σ2 H2 fun b H3 =>
      if b = true then te σ2 H3 fun y H4 => ∃ acc, H4 D = some (.lst acc) ∧ acc.length < sizeLine ∧ Pv (i + 1) (upd H4 D (.lst (acc ++ [y]))) else Pv (i + 1) H3) (hd : ∀ H, Pv xs.length H → Qd H) :
    ∃ W : Nat → Nat → Hp → Prop, (∃ m, W 0 m (upd H1 D (.lst []))) ∧ ∀ i m H, W i m H →
      ((ItzT K a b).stop i H ∧ Qd H) ∨ ((ItzT K a b).go i H ∧ ∃ Nx : Hp → Prop, (∀ H', Nx H' → ∃ m', m' < m ∧ W (i + 1) m' H') ∧ ∀ x H', (ItzT K a b).yld i H x H' → g x (wipe σ vs) H' fun σ2 H2 => wipe σ2 vs = wipe σ vs ∧ tt σ2 H2 fun b H3 =>
        if b = true then te σ2 H3 fun y H4 => ∃ acc, H4 D = some (.lst acc) ∧ acc.length < sizeLine ∧ Nx (upd H4 D (.lst (acc ++ [y]))) else Nx H3) := by
  refine ⟨fun i m H => m = xs.length - i ∧ i ≤ xs.length ∧ Pv i H, ⟨xs.length, by simp, Nat.zero_le _, h0⟩, ?_⟩
  rintro i m H ⟨rfl, hi, p⟩
  obtain ⟨qx, qy⟩ := hq i H hi p
  by_cases hlt : i < xs.length
  · have hlt2 : i < ys.length := by omega
    have hx : xs[i]? = some xs[i] := List.getElem?_eq_getElem hlt
    have hy : ys[i]? = some ys[i] := List.getElem?_eq_getElem hlt2
    refine .inr ⟨⟨xs, ys, _, _, qx, qy, hx, hy⟩, Pv (i + 1), fun H' p' => ⟨xs.length - (i + 1), by omega, rfl, hlt, p'⟩, fun v H' y => ?_⟩
    obtain ⟨T, x', y', rfl, hT, rfl, f1, f2⟩ := y
    exact hs i x' y' T H (f1 xs qx) (f2 ys qy) p hT
  · have e : i = xs.length := by omega
    subst e
    exact .inl ⟨⟨xs, ys, qx, qy, Or.inl (Nat.le_refl _)⟩, hd H p⟩
/-- columns -/
def turn (rows : List (List Int)) (n : Nat) : List (List Int) := (List.range n).map fun j => rows.map fun r => co r j
section
variable {P : Program} {w : World} {K : PySem.W.Frag} {mg : Str → Option Value} {base : Heap} {Ps : List Addr}
def spTurned : Sp := fun vs H Q _ => ∃ (t : Addr) (rows : List (List Int)) (n : Nat), vs = [.ref t] ∧ Tl2 H t rows ∧ 1 ≤ rows.length ∧ rows.length ≤ 100 ∧ n ≤ 100 ∧ (∀ r ∈ rows, r.length = n) ∧ ∀ p H', Same H H' → Tl2 H' p (turn rows n) → Q (.ref p) H'
theorem ok_law_turned (T : Facts K mg) : FnOk P w K mg base CX0 1 T.f_law_turned T.fd_law_turned ["_law_table"] spTurned := by
  refine T.F_law_turned.ok sc_law_turned (fun vs H Q E h => ?_) (fun cdv A outer s H vs Q E hr h => ?_)
  · obtain ⟨t, rows, n, rfl, _⟩ := h
    rfl
  · obtain ⟨t, rows, n, rfl, ⟨as, ht, hR⟩, l1, hl, hn, hw, q⟩ := h
    refine ⟨_, (PSs.nox (pss_one (ps_ret (pe_tupleOf (by rfl) T.z_tuple (pe_lc (own := [("_law_at", 2)]) (g := (gName 2)) (tt := tYes) (by rfl) sc_law_turned.nd (pi_range1 (by rfl) T.z_range (pa_cons (pe_callB call_len_seq (by rfl) T.z_len (by decide +kernel) (pa_cons (pe_ix ix_tup (pv 0) pe_int (fun _ _ => rfl)) pa_nil)) pa_nil)) (blkOk_by (N := N_law_turned) (sc := defScope s_law_turned) (by decide +kernel)) (fun _ _ _ _ _ => (pg_name (i := 2) sc_law_turned.nd rfl (.inr rfl))) (fun _ _ _ _ _ => pts_nil) (fun _ _ _ _ _ => (pe_tupleOf (by rfl) T.z_tuple (pe_lc (own := [("_law_row", 1)]) (g := (gName 1)) (tt := tYes) (by rfl) sc_law_turned.nd (pi_tup (pv 0) : PI _ _ _ (iTup K _)) (blkOk_by (N := N_law_turned) (sc := relS _ (defScope s_law_turned)) (by decide +kernel)) (fun _ _ _ _ _ => (pg_name (i := 1) sc_law_turned.nd rfl (.inl rfl))) (fun _ _ _ _ _ => pts_nil) (fun _ _ _ _ _ => (pe_ix (ix_tup : IxR _ (rIxT K)) (pv 1) (pv 2) (fun _ _ => rfl)))) : PE _ _ (tThen _ (kTup K))))))))), ?_⟩
    obtain ⟨a0, r0, k1, k2, k3⟩ := RX.get hR (i := 0) l1
    have alen := RX.len hR
    refine ⟨_, rfl, t, _, 0, .ref a0, rfl, rfl, SqT.of ht, atI_nat (j := 0) (by rw [List.getElem?_map, k1]; rfl), a0, _, rfl, .inr (SqT.of k3), ?_⟩
    rw [List.length_map, hw r0 (List.mem_of_getElem? k2)]
    refine ⟨n, rfl, by omega, by omega, fun D hD => ?_⟩
    refine lc_rangeT (f := fun j => rows.map fun r => co r j) hD hn (fun _ => rfl) (fun j H2 Q2 hj s2 kq => ?_) (fun bs H6 s6 d6 r6 => ?_)
    · rw [Int.toNat_natCast] at hj
      have ht2 := s2 _ _ ht
      refine ⟨_, rfl, t, rfl, ⟨_, SqT.of ht2⟩, fun E1 hE => ?_⟩
      refine lc_tup (xs := as.map V.ref) (fun i H' => H' = upd H2 E1 (.lst (((rows.take i).map fun r => co r j).map V.int))) rfl (fun i H' _ hP => by rw [hP]; exact SqT.of (same_upd0 hE _ _ ht2)) (fun i x H' hx hP => ?_) (fun H' hP => ?_)
      · subst hP
        rw [List.getElem?_map] at hx
        obtain ⟨a, ha, rfl⟩ := Option.map_eq_some_iff.mp hx
        obtain ⟨a', r, g1, g2, g3⟩ := RX.get hR (by rw [← alen]; exact (List.getElem?_eq_some_iff.mp ha).1)
        rw [ha] at g1
        cases g1
        have rl := hw r (List.mem_of_getElem? g2)
        refine ⟨rfl, _, rfl, _, rfl, a, _, _, .int (co r j), rfl, rfl, SqT.of (same_upd0 hE _ _ (s2 _ _ g3)), atI_nat (get_int (by omega)), _, upd_same, ?_, ?_⟩
        · rw [List.length_map, List.length_map, List.length_take]
          exact small1000 (by omega)
        · rw [upd_upd, List.take_add_one, g2, List.map_append, List.map_append]
          rfl
      · subst hP
        rw [List.length_map, alen, List.take_length]
        exact .inl ⟨E1, _, rfl, SqL.of upd_same, fun p hp => kq p _ (fun b o e => same_upd0 hp _ _ (same_upd0 hE _ _ e)) upd_same⟩
    · rw [Int.toNat_natCast] at r6
      exact .inl ⟨D, _, rfl, SqL.of d6, fun p hp => q p _ (fun b o e => same_upd0 hp _ _ (s6 _ _ e)) ⟨bs, upd_same, r6.same (same_upd0 hp)⟩⟩
/-- sums of products, up to a place -/
def dotn (r c : List Int) (i : Nat) : List Int := tb i fun k => co r k * co c k
def dot (r c : List Int) : Int := (dotn r c r.length).sum
/-- the product of rows and columns -/
def mm (A C : List (List Int)) : List (List Int) := A.map fun r => C.map fun c => dot r c
def spMatrix : Sp := fun vs H Q _ => ∃ (t u : Addr) (A B : List (List Int)) (m n : Nat), vs = [.ref t, .ref u] ∧ Tl2 H t A ∧ Tl2 H u B ∧ 1 ≤ B.length ∧ B.length = m ∧ m ≤ 100 ∧ A.length ≤ 100 ∧ n ≤ 100 ∧ (∀ r ∈ A, r.length = m) ∧ (∀ r ∈ B, r.length = n) ∧
  (∀ r ∈ A, ∀ c ∈ turn B n, ∀ k, CMulW (co r k) (co c k)) ∧ ∀ p H', Same H H' → Tl2 H' p (mm A (turn B n)) → Q (.ref p) H'
theorem ok_law_matrix (T : Facts K mg) : FnOk P w K mg base CX0 1 T.f_law_matrix T.fd_law_matrix ["_law_one", "_law_other"] spMatrix := by
  refine T.F_law_matrix.ok sc_law_matrix (fun vs H Q E h => ?_) (fun cdv A outer s H vs Q E hr h => ?_)
  · obtain ⟨t, u, A, B, m, n, rfl, _⟩ := h
    rfl
  · obtain ⟨t, u, A1, B, m, n, rfl, ⟨as, ht, hA⟩, ⟨cs, hu, hB⟩, l1, hm, hm2, hl, hn, hwA, hwB, hk, q⟩ := h
    refine ⟨_, (PSs.nox (pss_cons (ps_setLc (i := 2) (own := [("_law_at", 4)]) (g := (gName 4)) (tt := tYes) rfl sc_law_matrix.nd rfl rfl (sw_true rfl rfl rfl (by decide +kernel)) (pi_range1 (by rfl) T.z_range (pa_cons (pe_callB call_len_seq (by rfl) T.z_len (by decide +kernel) (pa_cons (pe_ix ix_tup (pv 1) pe_int (fun _ _ => rfl)) pa_nil)) pa_nil)) (blkOk_by (N := N_law_matrix) (sc := defScope s_law_matrix) (by decide +kernel)) (fun _ _ _ _ _ => (pg_name (i := 4) sc_law_matrix.nd rfl (.inr rfl))) (fun _ _ _ _ _ => pts_nil) (fun _ _ _ _ _ => (pe_tupleOf (by rfl) T.z_tuple (pe_lc (own := [("_law_row", 3)]) (g := (gName 3)) (tt := tYes) (by rfl) sc_law_matrix.nd (pi_tup (pv 1) : PI _ _ _ (iTup K _)) (blkOk_by (N := N_law_matrix) (sc := relS _ (defScope s_law_matrix)) (by decide +kernel)) (fun _ _ _ _ _ => (pg_name (i := 3) sc_law_matrix.nd rfl (.inl rfl))) (fun _ _ _ _ _ => pts_nil) (fun _ _ _ _ _ => (pe_ix (ix_tup : IxR _ (rIxT K)) (pv 3) (pv 4) (fun _ _ => rfl)))) : PE _ _ (tThen _ (kTup K)))))
    (pss_cons (ps_set (i := 5) sc_law_matrix.nd rfl (.inl rfl) (pe_lst pa_nil))
    (pss_cons (ps_for PassesOwn.never (by rfl) (pi_tup (pv 0)) (pg_name (i := 3) sc_law_matrix.nd rfl (.inr rfl))
      (pss_one (ps_expr (pe_bm PySem.F.plainAttrs_list PySem.F.slot_list_append PySem.F.type_list_append mt_append (pv 5) (pa_cons (pe_tupleOf (by rfl) T.z_tuple (pe_lc (own := [("_law_column", 8)]) (g := (gName 8)) (tt := tYes) (by rfl) sc_law_matrix.nd (pi_list (pv 2)) (blkOk_by (N := N_law_matrix) (sc := defScope s_law_matrix) (by decide +kernel)) (fun _ _ _ _ _ => (pg_name (i := 8) sc_law_matrix.nd rfl (.inl rfl))) (fun _ _ _ _ _ => pts_nil) (fun _ _ _ _ _ => (pe_callB (cr_sum (by rfl) : CallR _ _ (rSum K)) (by rfl) T.z_sum (by decide +kernel) (pa_cons (pe_lc (own := [("_law_a", 6), ("_law_b", 7)]) (g := (gTup K 2 (gCons (gName 6) (gCons (gName 7) gNil)))) (tt := tYes) (by rfl) sc_law_matrix.nd (pi_zipA (by rfl) T.z_zip (pa_cons (pv 3) (pa_cons (pv 8) pa_nil)) : PI _ _ _ (iZipA K _)) (blkOk_by (N := N_law_matrix) (sc := relS _ (defScope s_law_matrix)) (by decide +kernel)) (fun _ _ _ _ _ => (pg_tup (by rfl) (pgs_cons (pg_name (i := 6) sc_law_matrix.nd rfl (.inl rfl)) (pgs_cons (pg_name (i := 7) sc_law_matrix.nd rfl (.inl rfl)) pgs_nil)))) (fun _ _ _ _ _ => pts_nil) (fun _ _ _ _ _ => (pe_op op_mulW (pv 6) (pv 7)))) pa_nil))))) pa_nil)))))
    (pss_one (ps_ret (pe_tupleOf (by rfl) T.z_tuple (pv 5)))))))), ?_⟩
    obtain ⟨a0, r0, k1, k2, k3⟩ := RX.get hB (i := 0) l1
    have alen := RX.len hA
    have clen := RX.len hB
    refine ⟨_, rfl, u, _, 0, .ref a0, rfl, rfl, SqT.of hu, atI_nat (j := 0) (by rw [List.getElem?_map, k1]; rfl), a0, _, rfl, .inr (SqT.of k3), ?_⟩
    rw [List.length_map, hwB r0 (List.mem_of_getElem? k2)]
    refine ⟨n, rfl, by omega, by omega, fun D hD => ?_⟩
    refine lc_rangeT (f := fun j => B.map fun r => co r j) hD hn (fun _ => rfl) (fun j H2 Q2 hj s2 kq => ?_) (fun bs H6 s6 d6 r6 => ?_)
    · rw [Int.toNat_natCast] at hj
      have ht2 := s2 _ _ hu
      refine ⟨_, rfl, u, rfl, ⟨_, SqT.of ht2⟩, fun E1 hE => ?_⟩
      refine lc_tup (xs := cs.map V.ref) (fun i H' => H' = upd H2 E1 (.lst (((B.take i).map fun r => co r j).map V.int))) rfl (fun i H' _ hP => by rw [hP]; exact SqT.of (same_upd0 hE _ _ ht2)) (fun i x H' hx hP => ?_) (fun H' hP => ?_)
      · subst hP
        rw [List.getElem?_map] at hx
        obtain ⟨a, ha, rfl⟩ := Option.map_eq_some_iff.mp hx
        obtain ⟨a', r, g1, g2, g3⟩ := RX.get hB (by rw [← clen]; exact (List.getElem?_eq_some_iff.mp ha).1)
        rw [ha] at g1
        cases g1
        have rl := hwB r (List.mem_of_getElem? g2)
        refine ⟨rfl, _, rfl, _, rfl, a, _, _, .int (co r j), rfl, rfl, SqT.of (same_upd0 hE _ _ (s2 _ _ g3)), atI_nat (get_int (by omega)), _, upd_same, ?_, ?_⟩
        · rw [List.length_map, List.length_map, List.length_take]
          exact small1000 (by omega)
        · rw [upd_upd, List.take_add_one, g2, List.map_append, List.map_append]
          rfl
      · subst hP
        rw [List.length_map, clen, List.take_length]
        exact .inl ⟨E1, _, rfl, SqL.of upd_same, fun p hp => kq p _ (fun b o e => same_upd0 hp _ _ (same_upd0 hE _ _ e)) upd_same⟩
    · rw [Int.toNat_natCast] at r6
      have r6 : RT H6 bs (turn B n) := r6
      refine ⟨by decide, fun F hF => ?_⟩
      have nF : ∀ b o, H b = some o → b ≠ F := fun b o e => ne_of_none (s6 _ _ e) hF
      have DF : D ≠ F := ne_of_none d6 hF
      have s7 : Same H (upd H6 F (.lst [])) := fun b o e => same_upd0 hF _ _ (s6 _ _ e)
      have d7 := same_upd0 (o := .lst []) hF _ _ d6
      have r7 := r6.same (same_upd0 (o := .lst []) hF)
      have bF : ∀ a ∈ bs, a ≠ F := fun a ha => by
        obtain ⟨r, _, e⟩ := RX.memA r6 ha
        exact ne_of_none e hF
      have clen2 := RX.len r6
      have tl : (turn B n).length = n := by
        unfold turn
        rw [List.length_map, List.length_range]
      refine ⟨_, rfl, t, rfl, ⟨_, SqT.of (s7 _ _ ht)⟩, for_tup (xs := as.map V.ref) (fun i σ H' => ∃ fs y3, σ = [some (.ref t), some (.ref u), some (.ref D), y3, none, some (.ref F), none, none, none] ∧ Same H H' ∧ H' D = some (.lst (bs.map V.ref)) ∧ RT H' bs (turn B n) ∧ H' F = some (.lst (fs.map V.ref)) ∧ RT H' fs ((A1.take i).map fun r => (turn B n).map fun c => dot r c) ∧ ∀ a ∈ fs, a ≠ F) ⟨[], none, rfl, s7, d7, r7, upd_same, True.intro, fun a ha => absurd ha List.not_mem_nil⟩ (fun i σ H' _ hP => by
        obtain ⟨_, _, _, sH, _⟩ := hP
        exact SqT.of (sH _ _ ht)) (fun i x σ H8 hx hP => ?_) (fun σ H8 hP => ?_)⟩
      · obtain ⟨fs, y3, rfl, s8, d8, r8, f8, g8, n8⟩ := hP
        rw [List.getElem?_map] at hx
        obtain ⟨a, ha, rfl⟩ := Option.map_eq_some_iff.mp hx
        obtain ⟨a', r, g1, g2, g3⟩ := RX.get hA (by rw [← alen]; exact (List.getElem?_eq_some_iff.mp ha).1)
        rw [ha] at g1
        cases g1
        have rm := List.mem_of_getElem? g2
        have rl := hwA r rm
        have fl := RX.len g8
        have hi := (List.getElem?_eq_some_iff.mp g2).1
        rw [List.length_map, List.length_take] at fl
        refine ⟨_, rfl, .inl ⟨rfl, _, SqL.of f8⟩, ?_⟩
        refine ⟨_, rfl, D, rfl, ⟨_, SqL.of d8⟩, fun E1 hE => ?_⟩
        refine lc_list (xs := bs.map V.ref) (fun j H2 => Same H8 H2 ∧ H2 E1 = some (.lst ((((turn B n).take j).map fun c => dot r c).map V.int))) ⟨same_upd0 hE, upd_same⟩ (fun j H2 _ hP => SqL.of (hP.1 _ _ d8)) (fun j x H2 hx hP => ?_) (fun H2 hP => ?_)
        · obtain ⟨s9, e9⟩ := hP
          rw [List.getElem?_map] at hx
          obtain ⟨b, hb, rfl⟩ := Option.map_eq_some_iff.mp hx
          obtain ⟨b', c, q1, q2, q3⟩ := RX.get r8 (by rw [← clen2]; exact (List.getElem?_eq_some_iff.mp hb).1)
          rw [hb] at q1
          cases q1
          have cm := List.mem_of_getElem? q2
          have cl : c.length = m := by
            obtain ⟨j', _, rfl⟩ := List.mem_map.mp cm
            rw [List.length_map, hm]
          have hj := (List.getElem?_eq_some_iff.mp q2).1
          have ga := s9 _ _ (s8 _ _ g3)
          have gb := s9 _ _ q3
          refine ⟨rfl, _, rfl, _, rfl, a, b, _, _, rfl, .inr ⟨SqT.of ga, SqT.of gb, fun E2 hE2 => ?_⟩⟩
          refine lc_zipT (xs := r.map V.int) (ys := c.map V.int) (by rw [List.length_map, List.length_map, rl, cl]) (fun k H3 => Same H2 H3 ∧ H3 E2 = some (.lst ((dotn r c k).map V.int))) ⟨same_upd0 hE2, upd_same⟩ (fun k H3 _ hP => ⟨SqT.of (hP.1 _ _ ga), SqT.of (hP.1 _ _ gb)⟩) (fun k x y Z H3 hx hy hP hZ => ?_) (fun H3 hP => ?_)
          · obtain ⟨s10, e10⟩ := hP
            obtain ⟨hk1, rfl⟩ := int_get hx
            obtain ⟨_, rfl⟩ := int_get hy
            have sZ := same_upd0 (o := .tup [.int (co r k), .int (co c k)]) hZ
            refine ⟨Z, _, rfl, SqT.of upd_same, rfl, _, _, rfl, _, _, rfl, rfl, rfl, _, rfl, _, rfl, _, _, rfl, rfl, hk r rm c cm k, _, sZ _ _ e10, ?_, fun b o e => ?_, ?_⟩
            · unfold dotn
              rw [List.length_map, tb_len]
              exact small1000 (by omega)
            · rw [upd_ne (ne_of_none e hE2)]
              exact sZ _ _ (s10 _ _ e)
            · rw [upd_same]
              unfold dotn tb
              rw [List.range_succ, List.map_append, List.map_append]
              rfl
          · obtain ⟨s10, e10⟩ := hP
            rw [List.length_map] at e10
            refine ⟨E2, _, rfl, SqL.of e10, _, s10 _ _ e9, ?_, fun b o e => ?_, ?_⟩
            · rw [List.length_map, List.length_map, List.length_take]
              exact small1000 (by omega)
            · rw [upd_ne (ne_of_none e hE)]
              exact s10 _ _ (s9 _ _ e)
            · rw [upd_same, List.take_add_one, q2, List.map_append, List.map_append]
              rfl
        · obtain ⟨s9, e9⟩ := hP
          rw [List.length_map, clen2, List.take_length] at e9
          refine .inl ⟨E1, _, rfl, SqL.of e9, fun N hN => ?_⟩
          have sN : Same H8 (upd H2 N (.tup (((turn B n).map fun c => dot r c).map V.int))) := fun b o e => same_upd0 hN _ _ (s9 _ _ e)
          have fN := sN _ _ f8
          have nNF : N ≠ F := fun e => by
            rw [e, s9 _ _ f8] at hN
            cases hN
          refine ⟨F, _, _, rfl, rfl, fN, by rw [List.length_map]; exact small1000 (by omega), fs ++ [N], _, rfl, fun b o e => ?_, ?_, (r8.same sN).updN bF, ?_, ?_, fun a ha => ?_⟩
          · rw [upd_ne (nF b o e)]
            exact sN _ _ (s8 b o e)
          · rw [upd_ne DF]
            exact sN _ _ d8
          · rw [upd_same, List.map_append]
            rfl
          · rw [List.take_add_one, g2, List.map_append]
            refine RX.snoc ((g8.same sN).updN n8) ?_
            show upd (upd H2 N _) F _ N = _
            rw [upd_ne nNF, upd_same]
          · rcases List.mem_append.mp ha with ha | ha
            · exact n8 a ha
            · rw [List.mem_singleton.mp ha]
              exact nNF
      · obtain ⟨fs, y3, rfl, s8, d8, r8, f8, g8, n8⟩ := hP
        rw [List.length_map, alen, List.take_length] at g8
        exact ⟨_, rfl, .inl ⟨F, _, rfl, SqL.of f8, fun p hp => q p _ (fun b o e => same_upd0 hp _ _ (s8 _ _ e)) ⟨fs, upd_same, RT.same g8 (same_upd0 hp)⟩⟩⟩
end
end K01

set_option Elab.async false
set_option linter.all false
set_option maxRecDepth 100000
set_option maxHeartbeats 4000000
namespace K01
open PySem PySem.Spec PyProof.Rows L2 StX RZ MyR SlX OwnR OwnF EnumT GxR GenNx FDivQ
theorem rw_of {K : PySem.W.Frag} {H : Hp} {n : Nat} : ∀ {as : List Addr} {rows : List (List Int)}, RT H as rows → (∀ r ∈ rows, r.length = n) → ZipN.Rw K H n as (rows.map fun r => r.map V.int)
  | [], [], _, _ => True.intro
  | a :: as, r :: rs, h, hl => ⟨⟨SqT.of h.1, by rw [List.length_map]; exact hl r List.mem_cons_self⟩, rw_of h.2 fun r hr => hl r (List.mem_cons_of_mem _ hr)⟩
theorem col_of {rows : List (List Int)} {n j : Nat} (hl : ∀ r ∈ rows, r.length = n) (hj : j < n) : ZipN.colN (rows.map fun r => r.map V.int) j = (rows.map fun r => co r j).map V.int := by
  unfold ZipN.colN
  rw [List.map_map, List.map_map]
  refine List.map_congr_left fun r hr => ?_
  show (r.map V.int).getD j .non = V.int (co r j)
  rw [List.getD_eq_getElem?_getD, get_int (by rw [hl r hr]; exact hj)]
  rfl
theorem rt_of {H : Hp} {f : Nat → List Int} : ∀ {n : Nat} {ts : List Addr}, ts.length = n → (∀ (j : Nat) (t : Addr), ts[j]? = some t → H t = some (tp (f j))) → RT H ts ((List.range n).map f)
  | 0, [], _, _ => True.intro
  | 0, _ :: _, h, _ => by cases h
  | n + 1, ts, h, g => by
    have hne : ts ≠ [] := fun e => by rw [e] at h; cases h
    have e := (List.dropLast_concat_getLast hne).symm
    rw [e, List.range_succ, List.map_append]
    refine RX.snoc (rt_of (by rw [List.length_dropLast]; omega) fun j t hj => g j t ?_) (g n _ ?_)
    · have hj2 := (List.getElem?_eq_some_iff.mp hj).1
      rw [e, List.getElem?_append_left hj2]
      exact hj
    · rw [List.getLast_eq_getElem, List.getElem?_eq_getElem (by omega)]
      congr 2
      omega
section
variable {P : Program} {w : World} {K : PySem.W.Frag} {mg : Str → Option Value} {base : Heap} {Ps : List Addr}
theorem ok_product_rows (T : Facts K mg) : FnOk P w K mg base CX0 1 T.f_product_rows T.fd_product_rows ["one", "other"] (fun vs H Q E => (∃ (t u : Addr) (A B : List (List Int)), vs = [.ref t, .ref u] ∧ Tl2 H u B ∧ B.length ≤ 6) ∧ spMatrix vs H Q E) := by
  refine T.F_product_rows.ok sc_product_rows (fun vs H Q E h => ?_) (fun cdv A outer s H vs Q E hr h => ?_)
  · obtain ⟨_, t, u, A, B, m, n, rfl, _⟩ := h
    rfl
  · obtain ⟨⟨_, u', _, B', e', ⟨cs', hu', hB'⟩, l6⟩, t, u, A1, B, m, n, rfl, ⟨as, ht, hA⟩, ⟨cs, hu, hB⟩, l1, hm, hm2, hl, hn, hwA, hwB, hk, q⟩ := h
    refine ⟨_, (PSs.nox (pss_cons (ps_set (i := 2) sc_product_rows.nd rfl (.inl rfl) (ZipN.pe_listZipN (by rfl) (pv 1) (by rfl) T.z_list (by rfl) T.z_zip))
    (pss_cons (ps_set (i := 3) sc_product_rows.nd rfl (.inl rfl) (pe_lst pa_nil))
    (pss_cons (ps_for PassesOwn.never (by rfl) (pi_tup (pv 0)) (pg_name (i := 4) sc_product_rows.nd rfl (.inr rfl))
      (pss_one (ps_expr (pe_bm PySem.F.plainAttrs_list PySem.F.slot_list_append PySem.F.type_list_append mt_append (pv 3) (pa_cons (pe_tupleOf (by rfl) T.z_tuple (pe_lc (own := [("column", 7)]) (g := (gName 7)) (tt := tYes) (by rfl) sc_product_rows.nd (pi_list (pv 2)) (blkOk_by (N := N_product_rows) (sc := defScope s_product_rows) (by decide +kernel)) (fun _ _ _ _ _ => (pg_name (i := 7) sc_product_rows.nd rfl (.inl rfl))) (fun _ _ _ _ _ => pts_nil) (fun _ _ _ _ _ => (pe_callB (cr_sum (by rfl) : CallR _ _ (rSum K)) (by rfl) T.z_sum (by decide +kernel) (pa_cons (pe_lc (own := [("entry", 5), ("taken", 6)]) (g := (gTup K 2 (gCons (gName 5) (gCons (gName 6) gNil)))) (tt := tYes) (by rfl) sc_product_rows.nd (pi_zipA (by rfl) T.z_zip (pa_cons (pv 4) (pa_cons (pv 7) pa_nil)) : PI _ _ _ (iZipA K _)) (blkOk_by (N := N_product_rows) (sc := relS _ (defScope s_product_rows)) (by decide +kernel)) (fun _ _ _ _ _ => (pg_tup (by rfl) (pgs_cons (pg_name (i := 5) sc_product_rows.nd rfl (.inl rfl)) (pgs_cons (pg_name (i := 6) sc_product_rows.nd rfl (.inl rfl)) pgs_nil)))) (fun _ _ _ _ _ => pts_nil) (fun _ _ _ _ _ => (pe_op op_mulW (pv 5) (pv 6)))) pa_nil))))) pa_nil)))))
    (pss_one (ps_ret (pe_tupleOf (by rfl) T.z_tuple (pv 3)))))))), ?_⟩
    obtain rfl : u = u' := V.ref.inj (List.cons.inj (List.cons.inj e').2).1
    have alen := RX.len hA
    have clen := RX.len hB
    have c6 : cs.length ≤ 6 := by
      rw [hu] at hu'
      have h1 := HO.tup.inj (Option.some.inj hu')
      have h2 := congrArg List.length h1
      rw [List.length_map, List.length_map] at h2
      rw [h2, RX.len hB']
      exact l6
    refine ⟨_, rfl, u, n, cs, B.map fun r => r.map V.int, rfl, SqT.of hu, rw_of hB hwB, by omega, c6, by omega, fun D H5 bs s5 bl c5 hD5 => ?_⟩
    have s6 : Same H (upd H5 D (.lst (bs.map V.ref))) := fun b o e => same_upd0 hD5 _ _ (s5 _ _ e)
    have d6 : (upd H5 D (.lst (bs.map V.ref))) D = some (.lst (bs.map V.ref)) := upd_same
    have r6 : RT (upd H5 D (.lst (bs.map V.ref))) bs (turn B n) := rt_of bl fun j t hj => by
      have hjn : j < n := by
        rw [← bl]
        exact (List.getElem?_eq_some_iff.mp hj).1
      have := same_upd0 (o := .lst (bs.map V.ref)) hD5 _ _ (c5 j t hj)
      rw [col_of hwB hjn] at this
      exact this
    generalize upd H5 D (.lst (bs.map V.ref)) = H6 at s6 d6 r6 ⊢
    clear s5 c5 hD5
    refine ⟨by decide, fun F hF => ?_⟩
    have nF : ∀ b o, H b = some o → b ≠ F := fun b o e => ne_of_none (s6 _ _ e) hF
    have DF : D ≠ F := ne_of_none d6 hF
    have s7 : Same H (upd H6 F (.lst [])) := fun b o e => same_upd0 hF _ _ (s6 _ _ e)
    have d7 := same_upd0 (o := .lst []) hF _ _ d6
    have r7 := r6.same (same_upd0 (o := .lst []) hF)
    have bF : ∀ a ∈ bs, a ≠ F := fun a ha => by
      obtain ⟨r, _, e⟩ := RX.memA r6 ha
      exact ne_of_none e hF
    have clen2 := RX.len r6
    have tl : (turn B n).length = n := by
      unfold turn
      rw [List.length_map, List.length_range]
    refine ⟨_, rfl, t, rfl, ⟨_, SqT.of (s7 _ _ ht)⟩, for_tup (xs := as.map V.ref) (fun i σ H' => ∃ fs y3, σ = [some (.ref t), some (.ref u), some (.ref D), some (.ref F), y3, none, none, none] ∧ Same H H' ∧ H' D = some (.lst (bs.map V.ref)) ∧ RT H' bs (turn B n) ∧ H' F = some (.lst (fs.map V.ref)) ∧ RT H' fs ((A1.take i).map fun r => (turn B n).map fun c => dot r c) ∧ ∀ a ∈ fs, a ≠ F) ⟨[], none, rfl, s7, d7, r7, upd_same, True.intro, fun a ha => absurd ha List.not_mem_nil⟩ (fun i σ H' _ hP => by
      obtain ⟨_, _, _, sH, _⟩ := hP
      exact SqT.of (sH _ _ ht)) (fun i x σ H8 hx hP => ?_) (fun σ H8 hP => ?_)⟩
    · obtain ⟨fs, y3, rfl, s8, d8, r8, f8, g8, n8⟩ := hP
      rw [List.getElem?_map] at hx
      obtain ⟨a, ha, rfl⟩ := Option.map_eq_some_iff.mp hx
      obtain ⟨a', r, g1, g2, g3⟩ := RX.get hA (by rw [← alen]; exact (List.getElem?_eq_some_iff.mp ha).1)
      rw [ha] at g1
      cases g1
      have rm := List.mem_of_getElem? g2
      have rl := hwA r rm
      have fl := RX.len g8
      have hi := (List.getElem?_eq_some_iff.mp g2).1
      rw [List.length_map, List.length_take] at fl
      refine ⟨_, rfl, .inl ⟨rfl, _, SqL.of f8⟩, ?_⟩
      refine ⟨_, rfl, D, rfl, ⟨_, SqL.of d8⟩, fun E1 hE => ?_⟩
      refine lc_list (xs := bs.map V.ref) (fun j H2 => Same H8 H2 ∧ H2 E1 = some (.lst ((((turn B n).take j).map fun c => dot r c).map V.int))) ⟨same_upd0 hE, upd_same⟩ (fun j H2 _ hP => SqL.of (hP.1 _ _ d8)) (fun j x H2 hx hP => ?_) (fun H2 hP => ?_)
      · obtain ⟨s9, e9⟩ := hP
        rw [List.getElem?_map] at hx
        obtain ⟨b, hb, rfl⟩ := Option.map_eq_some_iff.mp hx
        obtain ⟨b', c, q1, q2, q3⟩ := RX.get r8 (by rw [← clen2]; exact (List.getElem?_eq_some_iff.mp hb).1)
        rw [hb] at q1
        cases q1
        have cm := List.mem_of_getElem? q2
        have cl : c.length = m := by
          obtain ⟨j', _, rfl⟩ := List.mem_map.mp cm
          rw [List.length_map, hm]
        have hj := (List.getElem?_eq_some_iff.mp q2).1
        have ga := s9 _ _ (s8 _ _ g3)
        have gb := s9 _ _ q3
        refine ⟨rfl, _, rfl, _, rfl, a, b, _, _, rfl, .inr ⟨SqT.of ga, SqT.of gb, fun E2 hE2 => ?_⟩⟩
        refine lc_zipT (xs := r.map V.int) (ys := c.map V.int) (by rw [List.length_map, List.length_map, rl, cl]) (fun k H3 => Same H2 H3 ∧ H3 E2 = some (.lst ((dotn r c k).map V.int))) ⟨same_upd0 hE2, upd_same⟩ (fun k H3 _ hP => ⟨SqT.of (hP.1 _ _ ga), SqT.of (hP.1 _ _ gb)⟩) (fun k x y Z H3 hx hy hP hZ => ?_) (fun H3 hP => ?_)
        · obtain ⟨s10, e10⟩ := hP
          obtain ⟨hk1, rfl⟩ := int_get hx
          obtain ⟨_, rfl⟩ := int_get hy
          have sZ := same_upd0 (o := .tup [.int (co r k), .int (co c k)]) hZ
          refine ⟨Z, _, rfl, SqT.of upd_same, rfl, _, _, rfl, _, _, rfl, rfl, rfl, _, rfl, _, rfl, _, _, rfl, rfl, hk r rm c cm k, _, sZ _ _ e10, ?_, fun b o e => ?_, ?_⟩
          · unfold dotn
            rw [List.length_map, tb_len]
            exact small1000 (by omega)
          · rw [upd_ne (ne_of_none e hE2)]
            exact sZ _ _ (s10 _ _ e)
          · rw [upd_same]
            unfold dotn tb
            rw [List.range_succ, List.map_append, List.map_append]
            rfl
        · obtain ⟨s10, e10⟩ := hP
          rw [List.length_map] at e10
          refine ⟨E2, _, rfl, SqL.of e10, _, s10 _ _ e9, ?_, fun b o e => ?_, ?_⟩
          · rw [List.length_map, List.length_map, List.length_take]
            exact small1000 (by omega)
          · rw [upd_ne (ne_of_none e hE)]
            exact s10 _ _ (s9 _ _ e)
          · rw [upd_same, List.take_add_one, q2, List.map_append, List.map_append]
            rfl
      · obtain ⟨s9, e9⟩ := hP
        rw [List.length_map, clen2, List.take_length] at e9
        refine .inl ⟨E1, _, rfl, SqL.of e9, fun N hN => ?_⟩
        have sN : Same H8 (upd H2 N (.tup (((turn B n).map fun c => dot r c).map V.int))) := fun b o e => same_upd0 hN _ _ (s9 _ _ e)
        have fN := sN _ _ f8
        have nNF : N ≠ F := fun e => by
          rw [e, s9 _ _ f8] at hN
          cases hN
        refine ⟨F, _, _, rfl, rfl, fN, by rw [List.length_map]; exact small1000 (by omega), fs ++ [N], _, rfl, fun b o e => ?_, ?_, (r8.same sN).updN bF, ?_, ?_, fun a ha => ?_⟩
        · rw [upd_ne (nF b o e)]
          exact sN _ _ (s8 b o e)
        · rw [upd_ne DF]
          exact sN _ _ d8
        · rw [upd_same, List.map_append]
          rfl
        · rw [List.take_add_one, g2, List.map_append]
          refine RX.snoc ((g8.same sN).updN n8) ?_
          show upd (upd H2 N _) F _ N = _
          rw [upd_ne nNF, upd_same]
        · rcases List.mem_append.mp ha with ha | ha
          · exact n8 a ha
          · rw [List.mem_singleton.mp ha]
            exact nNF
    · obtain ⟨fs, y3, rfl, s8, d8, r8, f8, g8, n8⟩ := hP
      rw [List.length_map, alen, List.take_length] at g8
      exact ⟨_, rfl, .inl ⟨F, _, rfl, SqL.of f8, fun p hp => q p _ (fun b o e => same_upd0 hp _ _ (s8 _ _ e)) ⟨fs, upd_same, RT.same g8 (same_upd0 hp)⟩⟩⟩
end
end K01

set_option Elab.async false
set_option linter.all false
set_option maxRecDepth 100000
set_option maxHeartbeats 4000000
namespace K01
open PySem PySem.Spec PyProof.Rows L2 StX RZ MyR SlX OwnR OwnF EnumT GxR GenNx FDivQ
theorem RX.set {p : Addr → List Int → Prop} {a : Addr} {r : List Int} (k : p a r) : ∀ {as : List Addr} {rs : List (List Int)} (i : Nat), RX p as rs → RX p (as.set i a) (rs.set i r)
  | [], [], _, _ => True.intro
  | b :: as, s :: rs, 0, h => ⟨k, h.2⟩
  | b :: as, s :: rs, i + 1, h => ⟨h.1, RX.set k i h.2⟩
/-- the item ahead of one, the last one ahead of the first -/
theorem atI_pred {xs : List V} {a : Nat} (h : a < xs.length) : ∃ i, i < xs.length ∧ atI xs ((a : Int) - 1) = xs[i]? := by
  unfold atI ixN
  by_cases c : a = 0
  · subst c
    refine ⟨xs.length - 1, by omega, ?_⟩
    rw [if_neg (by omega), if_pos (by omega)]
    have : ((((0 : Nat) : Int) - 1) + (xs.length : Int)).toNat = xs.length - 1 := by omega
    rw [this]
    rfl
  · refine ⟨a - 1, by omega, ?_⟩
    rw [if_pos (by omega), if_pos (by omega)]
    have : ((a : Int) - 1).toNat = a - 1 := by omega
    rw [this]
    rfl
theorem RT.sx {d : Addr} {H H' : Hp} {as : List Addr} {rs : List (List Int)} (h : RT H as rs) (s : Sx d H H') (hd : Dc H d) : RT H' as rs := RX.imp (fun a r e => s _ _ (dc_ne hd e) e) h
section
variable {P : Program} {w : World} {K : PySem.W.Frag} {mg : Str → Option Value} {base : Heap} {Ps : List Addr}
def spProdT : Sp := fun vs H Q _ => ∃ (t u : Addr) (A B : List (List Int)) (m n : Nat), vs = [.ref t, .ref u] ∧ Tl2 H t A ∧ Tl2 H u B ∧ Tz A m ∧ Tz B n ∧ B.length = m ∧ m ≤ 6 ∧
  (∀ r ∈ A, ∀ c ∈ turn B n, ∀ k, CMulW (co r k) (co c k)) ∧ ∀ p H', Same H H' → Tl2 H' p (mm A (turn B n)) → Q (.ref p) H'
theorem ok_table_product (T : Facts K mg) : FnOk P w K mg base CX0 5 T.f_table_product T.fd_table_product ["one", "other"] spProdT := by
  have G_require_rows := ok_require_rows (P := P) (w := w) (base := base) T
  have G_product_rows := ok_product_rows (P := P) (w := w) (base := base) T
  refine T.F_table_product.ok sc_table_product (fun vs H Q E h => ?_) (fun cdv A outer s H vs Q E hr h => ?_)
  · obtain ⟨t, u, A, B, m, n, rfl, _⟩ := h
    rfl
  · obtain ⟨t, u, A1, B, m, n, rfl, hA, hB, zA, zB, hm, m6, hk, q⟩ := h
    refine ⟨_, (PSs.nox (pss_cons (ps_expr (pe_call G_require_rows hr (by rfl) T.g_require_rows T.F_require_rows.kp T.b_require_rows .nil pass0 (pa_cons (pv 0) pa_nil)))
    (pss_cons (ps_expr (pe_call G_require_rows hr (by rfl) T.g_require_rows T.F_require_rows.kp T.b_require_rows .nil pass0 (pa_cons (pv 1) pa_nil)))
    (pss_cons (ps_if (pt_cmpR op_ne (pe_callB call_len_seq (by rfl) T.z_len (by decide +kernel) (pa_cons (pe_ix ix_tup (pv 0) pe_int (fun _ _ => rfl)) pa_nil)) (pe_callB call_len_seq (by rfl) T.z_len (by decide +kernel) (pa_cons (pv 1) pa_nil)) (nomark _))
      (pss_one ps_never)
      pss_nil)
    (pss_one (ps_ret (pe_call G_product_rows (hr.mono (by decide)) (by rfl) T.g_product_rows T.F_product_rows.kp T.b_product_rows .nil pass0 (pa_cons (pv 0) (pa_cons (pv 1) pa_nil))))))))), ?_⟩
    refine ⟨_, rfl, t, A1, m, rfl, hA, zA, fun H1 s1 => ⟨_, rfl, u, B, n, rfl, hB.same s1, zB, fun H2 s2 => ?_⟩⟩
    have hA2 := (hA.same s1).same s2
    have hB2 := (hB.same s1).same s2
    obtain ⟨as, ht, hR⟩ := id hA2
    obtain ⟨cs, hu, hS⟩ := id hB2
    obtain ⟨a0, r0, k1, k2, k3⟩ := RX.get hR (i := 0) zA.l1
    have clen := RX.len hS
    refine ⟨_, rfl, t, _, 0, .ref a0, rfl, rfl, SqT.of ht, atI_nat (j := 0) (by rw [List.getElem?_map, k1]; rfl), a0, _, rfl, .inr (SqT.of k3), _, rfl, u, _, rfl, .inr (SqT.of hu), rfl, _, rfl, ?_⟩
    rw [List.length_map, List.length_map, zA.ln r0 (List.mem_of_getElem? k2), clen, hm, decide_eq_true rfl]
    have zA2 := zA.l2
    have zB1 := zB.l1
    have zB2 := zB.l2
    have zB4 := zB.n2
    exact iteF ⟨_, rfl, _, rfl, ⟨t, u, A1, B, rfl, hB2, by omega⟩, t, u, A1, B, m, n, rfl, hA2, hB2, zB1, hm, by omega, by omega, by omega, zA.ln, zB.ln, hk, fun p H' s' h' => q p H' (fun b o e => s' _ _ (s2 _ _ (s1 _ _ e))) h'⟩
def spSome : Sp := fun vs H Q _ => ∃ (d : Addr) (m n : Nat) (M : Int), vs = [.ref d, .int m, .int n, .int M] ∧ Dc H d ∧ 1 ≤ m ∧ m ≤ 100 ∧ n ≤ 100 ∧ 0 ≤ M ∧ M ≤ 10 ^ 15 ∧
  ∀ p rows H', Sx d H H' → Dc H' d → Tl2 H' p rows → rows.length = m → (∀ r ∈ rows, r.length = n ∧ ∀ x ∈ r, x.natAbs ≤ 2 * M.natAbs) → Q (.ref p) H'
theorem ok_law_some_table (T : Facts K mg) : FnOk P w K mg base CX0 3 T.f_law_some_table T.fd_law_some_table ["_law_dice_here", "_law_rows", "_law_width", "_law_most"] spSome := by
  have G_law_roll : FnOk P w K mg base CX0 1 T.f_law_roll T.fd_law_roll ["_law_dice_here", "_law_total"] spRoll2 := (ok_law_roll T).imp roll2
  have G_law_near := ok_law_near (P := P) (w := w) (base := base) T
  refine T.F_law_some_table.ok sc_law_some_table (fun vs H Q E h => ?_) (fun cdv A outer s H vs Q E hr h => ?_)
  · obtain ⟨d, m, n, M, rfl, _⟩ := h
    rfl
  · obtain ⟨d, m, n, M, rfl, hD, m1, m2, n2, M0, M1, q⟩ := h
    refine ⟨_, (PSs.nox (pss_cons (ps_setLc (i := 4) (own := [("_law_row", 6)]) (g := (gName 6)) (tt := tYes) rfl sc_law_some_table.nd rfl rfl (sw_true rfl rfl rfl (by decide +kernel)) (pi_range1 (by rfl) T.z_range (pa_cons (pv 1) pa_nil)) (blkOk_by (N := N_law_some_table) (sc := defScope s_law_some_table) (by decide +kernel)) (fun _ _ _ _ _ => (pg_name (i := 6) sc_law_some_table.nd rfl (.inl rfl))) (fun _ _ _ _ _ => pts_nil) (fun _ _ _ _ _ => (pe_tupleOf (by rfl) T.z_tuple (pe_lc (own := [("_law_at", 5)]) (g := (gName 5)) (tt := tYes) (by rfl) sc_law_some_table.nd (pi_range1 (by rfl) T.z_range (pa_cons (pv 2) pa_nil)) (blkOk_by (N := N_law_some_table) (sc := relS _ (defScope s_law_some_table)) (by decide +kernel)) (fun _ _ _ _ _ => (pg_name (i := 5) sc_law_some_table.nd rfl (.inl rfl))) (fun _ _ _ _ _ => pts_nil) (fun _ _ _ _ _ => (pe_op op_mulW (pe_call G_law_near hr (by rfl) T.g_law_near T.F_law_near.kp T.b_law_near .nil pass0 (pa_cons (pv 0) (pa_cons (pv 3) pa_nil))) (pe_callTy call_int1 (by rfl) T.z_int (by decide +kernel) (pa_cons (pe_cmpR op_gt (pe_call G_law_roll (hr.mono (by decide)) (by rfl) T.g_law_roll T.F_law_roll.kp T.b_law_roll .nil pass0 (pa_cons (pv 0) (pa_cons pe_int pa_nil))) pe_int (nomark _)) pa_nil))))) : PE _ _ (tThen _ (kTup K)))))
    (pss_cons (ps_if (pw_and (pt_cmpR op_gt (pv 1) pe_int (nomark _)) (pw_and1 (pt_cmpR op_eq (pe_call G_law_roll (hr.mono (by decide)) (by rfl) T.g_law_roll T.F_law_roll.kp T.b_law_roll .nil pass0 (pa_cons (pv 0) (pa_cons pe_int pa_nil))) pe_int (nomark _)))).pt
      (pss_cons (ps_asg (pe_tup (pa_cons (pe_call G_law_near hr (by rfl) T.g_law_near T.F_law_near.kp T.b_law_near .nil pass0 (pa_cons (pv 0) (pa_cons pe_int pa_nil))) (pa_cons (pe_call G_law_roll (hr.mono (by decide)) (by rfl) T.g_law_roll T.F_law_roll.kp T.b_law_roll .nil pass0 (pa_cons (pv 0) (pa_cons (pv 1) pa_nil))) pa_nil))) (pg_tup (by rfl) (pgs_cons (pg_name (i := 7) sc_law_some_table.nd rfl (.inr rfl)) (pgs_cons (pg_name (i := 5) sc_law_some_table.nd rfl (.inl rfl)) pgs_nil))))
      (pss_one (ps_asg (pe_tupleOf (by rfl) T.z_tuple (pe_lc (own := [("_law_entry", 8)]) (g := (gName 8)) (tt := tYes) (by rfl) sc_law_some_table.nd (pi_tup (pe_ix ix_list (pv 4) (pe_op op_sub (pv 5) pe_int) (fun _ _ => rfl))) (blkOk_by (N := N_law_some_table) (sc := defScope s_law_some_table) (by decide +kernel)) (fun _ _ _ _ _ => (pg_name (i := 8) sc_law_some_table.nd rfl (.inl rfl))) (fun _ _ _ _ _ => pts_nil) (fun _ _ _ _ _ => (pe_op op_mulW (pv 7) (pv 8))))) (pg_sub (pv 4) (pv 5) set_list))))
      pss_nil)
    (pss_one (ps_ret (pe_tupleOf (by rfl) T.z_tuple (pv 4))))))), ?_⟩
    refine ⟨_, rfl, m, rfl, by omega, by omega, fun F hF => ?_⟩
    have Fd : F ≠ d := hD.ne hF
    refine lc_range (n := m) (fun j H' => ∃ bs rows, Sx d H H' ∧ Dc H' d ∧ H' F = some (.lst (bs.map V.ref)) ∧ bs.length = j ∧ RT H' bs rows ∧ ∀ r ∈ rows, r.length = n ∧ ∀ x ∈ r, x.natAbs ≤ M.natAbs) ⟨[], [], Sx.of (same_upd0 hF), hD.same (same_upd0 hF), upd_same, rfl, True.intro, fun r hr => absurd hr List.not_mem_nil⟩ (fun j H' hj hP => ?_) (fun H' hP => ?_)
    · obtain ⟨bs, rows, s1, d1, f1, bl, r1, hw⟩ := hP
      refine ⟨rfl, _, rfl, _, rfl, by omega, by omega, fun D hD1 => ?_⟩
      have Dd : D ≠ d := d1.ne hD1
      refine lc_range (n := n) (fun k H2 => ∃ l : List Int, Sx d H' H2 ∧ Dc H2 d ∧ H2 D = some (ls l) ∧ l.length = k ∧ ∀ x ∈ l, x.natAbs ≤ M.natAbs) ⟨[], Sx.of (same_upd0 hD1), d1.same (same_upd0 hD1), upd_same, rfl, fun x hx => absurd hx List.not_mem_nil⟩ (fun k H2 hk hP => ?_) (fun H2 hP => ?_)
      · obtain ⟨l, s2, d2, e2, ll, hx⟩ := hP
        refine ⟨rfl, _, rfl, _, rfl, d, M, rfl, d2, M0, M1, fun r H3 r1 r2 s3 d3 => ?_⟩
        refine ⟨_, rfl, d, 4, rfl, d3, by decide, by decide, fun j2 H4 hj2 s4 d4 => ?_⟩
        generalize hv : (if decide ((0 : Int) < (j2 : Int)) = true then (1 : Int) else 0) = v
        have v01 : v = 0 ∨ v = 1 := by
          rw [← hv]
          split
          · exact .inr rfl
          · exact .inl rfl
        have cm : CMulW r v := by
          have h1 : r.natAbs < 2 ^ 60 := by omega
          have h2 : v.natAbs < 2 ^ 60 := by omega
          exact wide_mul h1 h2 (by decide) (by decide) (by decide)
        have e4 : H4 D = some (ls l) := s4 _ _ Dd (s3 _ _ Dd e2)
        refine ⟨_, _, rfl, rfl, .inr ⟨_, rfl, _, v, rfl, congrArg V.int hv, cm, l.map V.int, e4, by rw [List.length_map, ll]; exact small1000 (by omega), l ++ [r * v], fun b o nb e => ?_, ?_, ?_, ?_, fun x hx2 => ?_⟩⟩
        · rw [upd_ne (ne_of_none e hD1)]
          exact s4 _ _ nb (s3 _ _ nb (s2 _ _ nb e))
        · obtain ⟨x, y, z, e⟩ := d4
          exact ⟨x, y, z, by rw [upd_ne (Ne.symm Dd)]; exact e⟩
        · rw [upd_same, ls, List.map_append]
          rfl
        · rw [List.length_append, ll]
          rfl
        · rcases List.mem_append.mp hx2 with hx2 | hx2
          · exact hx x hx2
          · rw [List.mem_singleton.mp hx2]
            rcases v01 with e | e
            · rw [e, Int.mul_zero]
              exact Nat.zero_le _
            · rw [e, Int.mul_one]
              omega
      · obtain ⟨l, s2, d2, e2, ll, hx⟩ := hP
        refine .inl ⟨D, _, rfl, SqL.of e2, fun N hN => ?_⟩
        have sN : Sx d H' (upd H2 N (.tup (l.map V.int))) := fun b o nb e => same_upd0 hN _ _ (s2 _ _ nb e)
        have dN : Dc (upd H2 N (.tup (l.map V.int))) d := d2.same (same_upd0 hN)
        have fN := sN _ _ Fd f1
        have nNF : N ≠ F := fun e => by
          rw [e, s2 _ _ Fd f1] at hN
          cases hN
        have rN := r1.sx sN d1
        refine ⟨bs.map V.ref, fN, by rw [List.length_map, bl]; exact small1000 (by omega), bs ++ [N], rows ++ [l], fun b o nb e => ?_, ?_, ?_, ?_, RX.snoc (rN.updN fun a ha => ?_) ?_, fun r hr => ?_⟩
        · rw [upd_ne (ne_of_none e hF)]
          exact sN _ _ nb (s1 _ _ nb e)
        · obtain ⟨x, y, z, e⟩ := dN
          exact ⟨x, y, z, by rw [upd_ne (Ne.symm Fd)]; exact e⟩
        · rw [upd_same, List.map_append]
          rfl
        · rw [List.length_append, bl]
          rfl
        · obtain ⟨r, _, e⟩ := RX.memA rN ha
          intro z
          rw [z, fN] at e
          cases e
        · show upd (upd H2 N _) F _ N = _
          rw [upd_ne nNF, upd_same]
        · rcases List.mem_append.mp hr with hr | hr
          · exact hw r hr
          · rw [List.mem_singleton.mp hr]
            exact ⟨ll, hx⟩
    · obtain ⟨bs, rows, s1, d1, f1, bl, r1, hw⟩ := hP
      have fin : ∀ bs rows H', Sx d H H' → Dc H' d → H' F = some (.lst (bs.map V.ref)) → bs.length = m → RT H' bs rows → (∀ r ∈ rows, r.length = n ∧ ∀ x ∈ r, x.natAbs ≤ 2 * M.natAbs) → ∀ p, H' p = none → Q (.ref p) (upd H' p (.tup (bs.map V.ref))) := fun bs rows H' s1 d1 f1 bl r1 hw p hp =>
        q p rows _ (fun b o nb e => same_upd0 hp _ _ (s1 _ _ nb e)) (d1.same (same_upd0 hp)) ⟨bs, upd_same, RT.same r1 (same_upd0 hp)⟩ (by rw [← RX.len r1, bl]) hw
      have hw2 : ∀ r ∈ rows, r.length = n ∧ ∀ x ∈ r, x.natAbs ≤ 2 * M.natAbs := fun r hr => ⟨(hw r hr).1, fun x hx => by have := (hw r hr).2 x hx; omega⟩
      refine ⟨_, rfl, _, _, rfl, rfl, _, rfl, ?_⟩
      have out : ∀ bs rows H', Sx d H H' → Dc H' d → H' F = some (.lst (bs.map V.ref)) → bs.length = m → RT H' bs rows → (∀ r ∈ rows, r.length = n ∧ ∀ x ∈ r, x.natAbs ≤ 2 * M.natAbs) → kTup K (V.ref F) H' Q := fun bs rows H' s1 d1 f1 bl r1 hw => .inl ⟨F, _, rfl, SqL.of f1, fin bs rows H' s1 d1 f1 bl r1 hw⟩
      by_cases c : 1 < m
      · rw [decide_eq_true (show (1 : Int) < (m : Int) by omega)]
        refine iteT ⟨_, rfl, d, 2, rfl, d1, by decide, by decide, fun j2 H2 hj2 s2 d2 => ⟨rfl, _, rfl, ?_⟩⟩
        have f2 := s2 _ _ Fd f1
        have r2 := r1.sx s2 d1
        by_cases c0 : j2 = 0
        · rw [decide_eq_true (show V.int ((j2 : Nat) : Int) = V.int 0 by rw [c0]; rfl)]
          refine iteT ⟨_, rfl, d, 2, rfl, d2, by decide, by decide, fun r H3 ra rb s3 d3 => ⟨_, rfl, _, rfl, d, m, rfl, d3, by omega, Nat.lt_trans (log_lt (k := 10) (by show m < 2 ^ 10; omega) (by decide)) (by decide), fun a H4 ha s4 d4 => ⟨(show 2 ≤ sizeLine by decide), fun U hU => ⟨U, _, rfl, SqT.of upd_same, rfl, _, _, rfl, _, _, rfl, rfl, ?_⟩⟩⟩⟩
          have sU : Sx d H' (upd H4 U (.tup [.int r, .int (a : Nat)])) := fun b o nb e => same_upd0 hU _ _ (s4 _ _ nb (s3 _ _ nb (s2 _ _ nb e)))
          have dU : Dc (upd H4 U (.tup [.int r, .int (a : Nat)])) d := d4.same (same_upd0 hU)
          generalize upd H4 U (.tup [.int r, .int (a : Nat)]) = H5 at sU dU ⊢
          clear s3 s4 f2 r2 hU s2
          have f5 := sU _ _ Fd f1
          have r5 := r1.sx sU d1
          have ham : a < m := by omega
          obtain ⟨i, hi, ei⟩ := atI_pred (xs := bs.map V.ref) (a := a) (by rw [List.length_map, bl]; exact ham)
          rw [List.length_map] at hi
          obtain ⟨b, w0, g1, g2, g3⟩ := RX.get r5 (i := i) (by rw [← RX.len r5]; exact hi)
          rw [List.getElem?_map, g1] at ei
          have wm := List.mem_of_getElem? g2
          refine ⟨_, rfl, _, rfl, _, _, rfl, rfl, F, _, _, .ref b, rfl, rfl, SqL.of f5, ei, b, rfl, ⟨_, SqT.of g3⟩, fun D hD2 => ?_⟩
          refine lc_tup (xs := w0.map V.int) (fun k H' => H' = upd H5 D (.lst (((w0.take k).map (r * ·)).map V.int))) rfl (fun k H' _ hP => by rw [hP]; exact SqT.of (same_upd0 hD2 _ _ g3)) (fun k x H' hx hP => ?_) (fun H' hP => ?_)
          · subst hP
            obtain ⟨hk, rfl⟩ := int_get hx
            have hxm := (hw w0 wm).2 _ (co_mem hk)
            have cm : CMulW r (co w0 k) := by
              have h1 : r.natAbs < 2 ^ 60 := by omega
              have h2 : (co w0 k).natAbs < 2 ^ 60 := by omega
              exact wide_mul h1 h2 (by decide) (by decide) (by decide)
            refine ⟨rfl, _, rfl, _, rfl, _, _, rfl, rfl, cm, _, upd_same, ?_, ?_⟩
            · rw [List.length_map, List.length_map, List.length_take]
              have := (hw w0 wm).1
              exact small1000 (by omega)
            · rw [upd_upd, take_snoc hk, List.map_append, List.map_append]
              rfl
          · subst hP
            rw [List.length_map, List.take_length]
            refine .inl ⟨D, _, rfl, SqL.of upd_same, fun N hN => ?_⟩
            have sN : Same H5 (upd (upd H5 D (.lst ((w0.map (r * ·)).map V.int))) N (.tup ((w0.map (r * ·)).map V.int))) := fun b o e => same_upd0 hN _ _ (same_upd0 hD2 _ _ e)
            have nN : (upd (upd H5 D (.lst ((w0.map (r * ·)).map V.int))) N (.tup ((w0.map (r * ·)).map V.int))) N = some (tp (w0.map (r * ·))) := upd_same
            have nNF : N ≠ F := fun e => by
              rw [e, same_upd0 hD2 _ _ f5] at hN
              cases hN
            generalize upd (upd H5 D (.lst ((w0.map (r * ·)).map V.int))) N (.tup ((w0.map (r * ·)).map V.int)) = H6 at sN nN ⊢
            have f6 := sN _ _ f5
            refine ⟨_, rfl, _, rfl, F, _, _, a, rfl, rfl, f6, ixN_at (by rw [List.length_map, bl]; exact ham), ?_⟩
            refine ⟨_, rfl, out (bs.set a N) (rows.set a (w0.map (r * ·))) _ (fun b o nb e => ?_) ?_ ?_ (by rw [List.length_set, bl]) ?_ fun z hz => ?_⟩
            · rw [upd_ne (ne_of_none e hF)]
              exact sN _ _ (sU _ _ nb (s1 _ _ nb e))
            · obtain ⟨x, y, z, e⟩ := dU
              exact ⟨x, y, z, by rw [upd_ne (Ne.symm Fd)]; exact sN _ _ e⟩
            · rw [upd_same, List.map_set]
            · refine RX.set ?_ a ((RT.same r5 sN).updN fun z hz => ?_)
              · show upd H6 F _ N = _
                rw [upd_ne nNF]
                exact nN
              · obtain ⟨q0, _, e⟩ := RX.memA (RT.same r5 sN) hz
                intro z2
                rw [z2, f6] at e
                cases e
            · rcases List.mem_or_eq_of_mem_set hz with hz | rfl
              · exact hw2 z hz
              · refine ⟨by rw [List.length_map]; exact (hw w0 wm).1, fun x hx => ?_⟩
                obtain ⟨y, hy, rfl⟩ := List.mem_map.mp hx
                have h1 := (hw w0 wm).2 y hy
                rw [Int.natAbs_mul]
                exact Nat.mul_le_mul (by omega) h1
        · rw [decide_eq_false (show ¬ V.int ((j2 : Nat) : Int) = V.int 0 from fun z => c0 (by have := V.int.inj z; omega))]
          exact iteF ⟨_, rfl, out bs rows H2 (fun b o nb e => s2 _ _ nb (s1 _ _ nb e)) d2 f2 bl r2 hw2⟩
      · rw [decide_eq_false (show ¬ (1 : Int) < (m : Int) by omega)]
        exact iteF ⟨_, rfl, out bs rows H' s1 d1 f1 bl r1 hw2⟩
end
end K01

set_option Elab.async false
set_option linter.all false
set_option maxRecDepth 100000
set_option maxHeartbeats 4000000
namespace K01
open PySem PySem.Spec PyProof.Rows L2 StX RZ MyR SlX OwnR OwnF EnumT GxR GenNx FDivQ
def TD (ls : List (List Int)) : List PyData := ls.map fun l => .tuple (l.map PyData.int)
theorem lay_td : ∀ ls : List (List Int), PyData.canLayAll0 (TD ls) = true
  | [] => rfl
  | l :: r => by
    show (PyData.canLay0 (.tuple (l.map PyData.int)) && PyData.canLayAll0 (TD r)) = true
    rw [lay_td r, show PyData.canLay0 (.tuple (l.map PyData.int)) = PyData.canLayAll0 (l.map PyData.int) from rfl, lay_ints]
    rfl
theorem depth_td : ∀ ls : List (List Int), PyData.depthAll (TD ls) ≤ 1
  | [] => Nat.zero_le _
  | l :: r => by
    show max (PyData.depth (.tuple (l.map PyData.int))) (PyData.depthAll (TD r)) ≤ 1
    have h := depth_td r
    rw [show PyData.depth (.tuple (l.map PyData.int)) = PyData.depthAll (l.map PyData.int) + 1 from rfl, depth_ints]
    omega
theorem shaped_ttd (ls : List (List Int)) : SeqAt.shaped (.tuple (TD ls)) = true := by
  unfold SeqAt.shaped
  rw [show PyData.canLay0 (.tuple (TD ls)) = PyData.canLayAll0 (TD ls) from rfl, lay_td]
  rw [show PyData.depth (.tuple (TD ls)) = PyData.depthAll (TD ls) + 1 from rfl, decide_eq_true (show PyData.depthAll (TD ls) + 1 ≤ 64 by have := depth_td ls; omega)]
  rfl
theorem ne_sameD {K : PySem.W.Frag} {H : Hp} {x y : V} {d : PyData} {Q : VK} (hx : L2.Dp K H x d) (hy : L2.Dp K H y d) (hl : PyData.canLay0 d = true) (hs : SeqAt.shaped d = true) (q : Q (.bl false) H) : rNeD K x y H Q := by
  refine ⟨d, d, hx, hy, hs, hs, ?_⟩
  rw [SeqAt.eqv_refl d hl]
  exact q
theorem dpAll_rt {K : PySem.W.Frag} {H : Hp} : ∀ {as : List Addr} {rows : List (List Int)}, RT H as rows → DpAll K H (as.map V.ref) (TD rows)
  | [], [], _ => .nil
  | a :: as, r :: rs, h => .cons (.tup (SqT.of h.1) (dpAll_ints _)) (dpAll_rt h.2)
theorem dp_tl2 {K : PySem.W.Frag} {H : Hp} {t : Addr} {rows : List (List Int)} (h : Tl2 H t rows) : L2.Dp K H (.ref t) (.tuple (TD rows)) := by
  obtain ⟨as, h1, h2⟩ := h
  exact .tup (SqT.of h1) (dpAll_rt h2)
theorem ne_tl2 {K : PySem.W.Frag} {H : Hp} {t u : Addr} {rows : List (List Int)} {Q : VK} (h : Tl2 H t rows) (g : Tl2 H u rows) (q : Q (.bl false) H) : rNeD K (.ref t) (.ref u) H Q := ne_sameD (dp_tl2 h) (dp_tl2 g) (lay_td _) (shaped_ttd _) q
/-- what a table asks -/
structure RtOk (rows : List (List Int)) (n : Nat) : Prop where
  kp : KP rows n
  le : EOk lless rows n
  lt : ∀ t ∈ ech lless rows n, t.length = n ∧ ld t < n
  lk : KOk (ech lless rows n)
  le2 : EOk lless (lkvs (ech lless rows n) n) n
  ke : ech lless (lkvs (ech lless rows n) n) n = kern rows n
  re : (ech lless rows n).length = (ech less rows n).length
  cnt : (ech less rows n).length + (kern rows n).length = n
  tz : Tz (turn rows n) rows.length
  te : EOk less (turn rows n) rows.length
  tr : (ech less (turn rows n) rows.length).length = (ech less rows n).length
  kl : ∀ k ∈ kern rows n, k.length = n
  kz : ∀ k ∈ kern rows n, ∀ r ∈ rows, dot k r = 0
  km : ∀ k ∈ kern rows n, ∀ r ∈ rows, ∀ i, CMulW (co k i) (co r i)
section
variable {P : Program} {w : World} {K : PySem.W.Frag} {mg : Str → Option Value} {base : Heap} {Ps : List Addr}
def spTRight (Ps : List Addr) : Sp := fun vs H Q _ => ∃ (t : Addr) (rows : List (List Int)) (n : Nat), vs = [.ref t] ∧ Tl2 H t rows ∧ RtOk rows n ∧ Tg Ps H ∧ ∀ H', Sts Ps H H' → Tg Ps H' → Q (.bl true) H'
theorem ok_law_table_right (T : Facts K mg) (TB_first_of : TabB base mg T.c_first_of T.P_first_of) (hP : T.P_first_of ∈ Ps) : FnOk P w K mg base CX0 6 T.f_law_table_right T.fd_law_table_right ["_law_table"] (spTRight Ps) := by
  have G_kernel := ok_kernel (P := P) (w := w) (base := base) T TB_first_of hP
  have G_law_kernel := ok_law_kernel (P := P) (w := w) (base := base) T
  have G_rank := ok_rank (P := P) (w := w) (base := base) T TB_first_of hP
  have G_law_rank := ok_law_rank (P := P) (w := w) (base := base) T
  have G_is_table := ok_is_table (P := P) (w := w) (base := base) T
  have G_law_turned := ok_law_turned (P := P) (w := w) (base := base) T
  refine T.F_law_table_right.ok sc_law_table_right (fun vs H Q E h => ?_) (fun cdv A outer s H vs Q E hr h => ?_)
  · obtain ⟨t, rows, n, rfl, _⟩ := h
    rfl
  · obtain ⟨t, rows, n, rfl, hA, o, hG, q⟩ := h
    refine ⟨_, (PSs.nox (pss_cons (ps_par (i := 1) (j := 2) (by rfl) sc_law_table_right.nd rfl rfl (by decide) rfl rfl (pa_cons (pe_callB call_len_seq (by rfl) T.z_len (by decide +kernel) (pa_cons (pe_ix ix_tup (pv 0) pe_int (fun _ _ => rfl)) pa_nil)) (pa_cons (pe_call G_kernel hr (by rfl) T.g_kernel T.F_kernel.kp T.b_kernel .nil pass0 (pa_cons (pv 0) pa_nil)) pa_nil)) (by rfl))
    (pss_cons (ps_if (pw_or (pt_cmpR (op_neD (hu64 hr)) (pv 2) (pe_tupleOf (by rfl) T.z_tuple (pe_call G_law_kernel hr (by rfl) T.g_law_kernel T.F_law_kernel.kp T.b_law_kernel .nil pass0 (pa_cons (pv 0) (pa_cons (pv 1) pa_nil)))) (nomark _)) (pw_or (pt_cmpR op_ne (pe_call G_rank hr (by rfl) T.g_rank T.F_rank.kp T.b_rank .nil pass0 (pa_cons (pv 0) pa_nil)) (pe_call G_law_rank hr (by rfl) T.g_law_rank T.F_law_rank.kp T.b_law_rank .nil pass0 (pa_cons (pv 0) (pa_cons (pv 1) pa_nil))) (nomark _)) (pw_or1 (pt_not (pt_val (pe_call G_is_table (hr.mono (by decide)) (by rfl) T.g_is_table T.F_is_table.kp T.b_is_table .nil pass0 (pa_cons (pv 0) pa_nil))))))).pt
      (pss_one (ps_ret pe_bl))
      pss_nil)
    (pss_cons (ps_if (pw_or (pt_cmpR op_ne (pe_op op_add (pe_call G_rank hr (by rfl) T.g_rank T.F_rank.kp T.b_rank .nil pass0 (pa_cons (pv 0) pa_nil)) (pe_callB call_len_seq (by rfl) T.z_len (by decide +kernel) (pa_cons (pv 2) pa_nil))) (pv 1) (nomark _)) (pw_or1 (pt_cmpR op_ne (pe_call G_rank hr (by rfl) T.g_rank T.F_rank.kp T.b_rank .nil pass0 (pa_cons (pe_call G_law_turned (hr.mono (by decide)) (by rfl) T.g_law_turned T.F_law_turned.kp T.b_law_turned .nil pass0 (pa_cons (pv 0) pa_nil)) pa_nil)) (pe_call G_rank hr (by rfl) T.g_rank T.F_rank.kp T.b_rank .nil pass0 (pa_cons (pv 0) pa_nil)) (nomark _)))).pt
      (pss_one (ps_ret pe_bl))
      pss_nil)
    (pss_cons (ps_for PassesOwn.never (by rfl) (pi_tup (pv 2)) (pg_name (i := 3) sc_law_table_right.nd rfl (.inr rfl))
      (pss_one (ps_if (pt_val (pe_callB (cr_any (by rfl)) (by rfl) T.z_any (by decide +kernel) (pa_cons (pe_lc (own := [("_law_line", 6)]) (g := (gName 6)) (tt := tYes) (by rfl) sc_law_table_right.nd (pi_tup (pv 0)) (blkOk_by (N := N_law_table_right) (sc := defScope s_law_table_right) (by decide +kernel)) (fun _ _ _ _ _ => (pg_name (i := 6) sc_law_table_right.nd rfl (.inl rfl))) (fun _ _ _ _ _ => pts_nil) (fun _ _ _ _ _ => (pe_cmpR op_ne (pe_callB (cr_sum (by rfl) : CallR _ _ (rSum K)) (by rfl) T.z_sum (by decide +kernel) (pa_cons (pe_lc (own := [("_law_a", 4), ("_law_b", 5)]) (g := (gTup K 2 (gCons (gName 4) (gCons (gName 5) gNil)))) (tt := tYes) (by rfl) sc_law_table_right.nd (pi_zipA (by rfl) T.z_zip (pa_cons (pv 3) (pa_cons (pv 6) pa_nil)) : PI _ _ _ (iZipA K _)) (blkOk_by (N := N_law_table_right) (sc := relS _ (defScope s_law_table_right)) (by decide +kernel)) (fun _ _ _ _ _ => (pg_tup (by rfl) (pgs_cons (pg_name (i := 4) sc_law_table_right.nd rfl (.inl rfl)) (pgs_cons (pg_name (i := 5) sc_law_table_right.nd rfl (.inl rfl)) pgs_nil)))) (fun _ _ _ _ _ => pts_nil) (fun _ _ _ _ _ => (pe_op op_mulW (pv 4) (pv 5)))) pa_nil)) pe_int (nomark _)))) pa_nil)))
        (pss_one (ps_ret pe_bl))
        pss_nil)))
    (pss_one (ps_ret pe_bl))))))), ?_⟩
    have z := o.kp.z
    have z1 := z.l1
    have z2 := z.l2
    have z4 := z.n2
    obtain ⟨as, ht, hR⟩ := id hA
    have alen := RX.len hR
    obtain ⟨a0, r0, k1, k2, k3⟩ := RX.get hR (i := 0) z1
    refine ⟨_, rfl, t, _, 0, .ref a0, rfl, rfl, SqT.of ht, atI_nat (j := 0) (by rw [List.getElem?_map, k1]; rfl), a0, _, rfl, .inr (SqT.of k3), ?_⟩
    rw [List.length_map, z.ln r0 (List.mem_of_getElem? k2)]
    refine ⟨_, rfl, t, rows, n, rfl, hA, o.kp, hG, fun p H1 s1 t1 hp => ⟨_, _, rfl, ?_⟩⟩
    have ht1 := s1.tup hG ht
    have hA1 := hA.sts s1 hG
    obtain ⟨as1, ht1', hR1⟩ := id hA1
    refine ⟨_, rfl, _, rfl, _, rfl, t, as1, rows, n, rfl, ht1', RX.imp (fun a r e => .inl e) hR1, by omega, by omega, z.ln, o.le, o.lt, o.lk, o.le2, fun u bs H2 s2 e2 r2 => .inl ⟨u, _, rfl, SqL.of e2, fun v hv => ?_⟩⟩
    rw [o.ke] at r2
    have sv : Same H1 (upd H2 v (.tup (bs.map V.ref))) := fun b o e => same_upd0 hv _ _ (s2 _ _ e)
    have hv2 : Tl2 (upd H2 v (.tup (bs.map V.ref))) v (kern rows n) := ⟨bs, upd_same, r2.same (same_upd0 hv)⟩
    generalize upd H2 v (.tup (bs.map V.ref)) = H3 at sv hv2 ⊢
    have t3 := t1.same sv
    have hA3 := hA1.same sv
    have hp3 := hp.same sv
    refine ne_tl2 hp3 hv2 ⟨_, rfl, iteF ?_⟩
    refine ⟨_, rfl, t, rows, n, rfl, hA3, z, o.kp.e, t3, fun H4 s4 t4 => ?_⟩
    have hA4 := hA3.sts s4 t3
    have hp4 := hp3.sts s4 t3
    obtain ⟨as4, ht4, hR4⟩ := id hA4
    refine ⟨_, rfl, _, rfl, t, as4, rows, n, rfl, .inl ht4, RX.imp (fun a r e => .inl e) hR4, by omega, by omega, z.ln, o.le, fun H5 s5 => ⟨rfl, _, rfl, ?_⟩⟩
    rw [o.re, decide_eq_true rfl]
    refine iteF ?_
    have hA5 := hA4.same s5
    refine ⟨_, rfl, t, rows, n, rfl, hA5, z, fun H6 s6 => ⟨true, rfl, iteF ?_⟩⟩
    have t6 := (t4.same s5).same s6
    have hA6 := hA5.same s6
    have hp6 := (hp4.same s5).same s6
    have s06 : Sts Ps H H6 := (((s1.trans (Sts.of sv)).trans s4).trans (Sts.of s5)).trans (Sts.of s6)
    clear s1 s2 sv s4 s5 s6 hA5 hA4 hA3 hA1 hp4 hp3
    dsimp only [tNext]
    refine ⟨_, rfl, t, rows, n, rfl, hA6, z, o.kp.e, t6, fun H7 s7 t7 => ?_⟩
    have hA7 := hA6.sts s7 t6
    have hp7 := hp6.sts s7 t6
    have s07 := s06.trans s7
    clear s06 s7
    obtain ⟨ks, hk, hK⟩ := id hp7
    refine ⟨_, rfl, p, _, rfl, .inr (SqT.of hk), _, _, rfl, rfl, _, rfl, rfl, _, rfl, ?_⟩
    have klen := RX.len hK
    have cn := o.cnt
    rw [List.length_map, klen, decide_eq_true (show V.int (((ech less rows n).length : Int) + ((kern rows n).length : Int)) = V.int (n : Int) from congrArg V.int (by omega))]
    refine iteF ?_
    refine ⟨_, rfl, t, rows, n, rfl, hA7, z1, by omega, by omega, z.ln, fun u H8 s8 hu => ⟨u, turn rows n, rows.length, rfl, hu, o.tz, o.te, t7.same s8, fun H9 s9 t9 => ?_⟩⟩
    have hA9 := (hA7.same s8).sts s9 (t7.same s8)
    have hp9 := (hp7.same s8).sts s9 (t7.same s8)
    refine ⟨_, rfl, t, rows, n, rfl, hA9, z, o.kp.e, t9, fun H10 s10 t10 => ⟨rfl, _, rfl, ?_⟩⟩
    have hA10 := hA9.sts s10 t9
    have hp10 := hp9.sts s10 t9
    have s010 := ((s07.trans (Sts.of s8)).trans s9).trans s10
    rw [o.tr, decide_eq_true rfl]
    refine iteF ?_
    dsimp only [tNext]
    clear s07 s8 s9 s10 hA9 hp9 hA7 hp7 hA6 hp6 hk hK t7 t9
    obtain ⟨as', ht', hR'⟩ := hA10
    obtain ⟨ks, hk, hK⟩ := hp10
    have klen := RX.len hK
    have alen := RX.len hR'
    refine ⟨_, rfl, p, rfl, ⟨_, SqT.of hk⟩, for_tup (xs := ks.map V.ref) (fun i σ H' => ∃ y3, σ = [some (.ref t), some (.int n), some (.ref p), y3, none, none, none] ∧ Same H10 H') ⟨none, rfl, fun _ _ e => e⟩ (fun i σ H' _ hP => by
      obtain ⟨_, _, sH⟩ := hP
      exact SqT.of (sH _ _ hk)) (fun i x σ H11 hx hP => ?_) (fun σ H11 hP => ?_)⟩
    · obtain ⟨y3, rfl, s11⟩ := hP
      rw [List.getElem?_map] at hx
      obtain ⟨a, ha, rfl⟩ := Option.map_eq_some_iff.mp hx
      obtain ⟨a', r, g1, g2, g3⟩ := RX.get hK (by rw [← klen]; exact (List.getElem?_eq_some_iff.mp ha).1)
      rw [ha] at g1
      cases g1
      have rm := List.mem_of_getElem? g2
      have rl := o.kl r rm
      have tH := s11 _ _ ht'
      refine ⟨_, rfl, t, rfl, ⟨_, SqT.of tH⟩, fun E1 hE => ?_⟩
      refine lc_tup (xs := as'.map V.ref) (fun j H2 => Same H11 H2 ∧ H2 E1 = some (.lst (List.replicate j (V.bl false)))) ⟨same_upd0 hE, upd_same⟩ (fun j H2 _ hP => SqT.of (hP.1 _ _ tH)) (fun j x H2 hx hP => ?_) (fun H2 hP => ?_)
      · obtain ⟨s9, e9⟩ := hP
        rw [List.getElem?_map] at hx
        obtain ⟨b, hb, rfl⟩ := Option.map_eq_some_iff.mp hx
        obtain ⟨b', c, q1, q2, q3⟩ := RX.get hR' (by rw [← alen]; exact (List.getElem?_eq_some_iff.mp hb).1)
        rw [hb] at q1
        cases q1
        have cm := List.mem_of_getElem? q2
        have cl := z.ln c cm
        have hj := (List.getElem?_eq_some_iff.mp q2).1
        have ga := s9 _ _ (s11 _ _ g3)
        have gb := s9 _ _ (s11 _ _ q3)
        refine ⟨rfl, _, rfl, _, rfl, a, b, _, _, rfl, .inr ⟨SqT.of ga, SqT.of gb, fun E2 hE2 => ?_⟩⟩
        refine lc_zipT (xs := r.map V.int) (ys := c.map V.int) (by rw [List.length_map, List.length_map, rl, cl]) (fun k H3 => Same H2 H3 ∧ H3 E2 = some (.lst ((dotn r c k).map V.int))) ⟨same_upd0 hE2, upd_same⟩ (fun k H3 _ hP => ⟨SqT.of (hP.1 _ _ ga), SqT.of (hP.1 _ _ gb)⟩) (fun k x y Z H3 hx hy hP hZ => ?_) (fun H3 hP => ?_)
        · obtain ⟨s10, e10⟩ := hP
          obtain ⟨hk1, rfl⟩ := int_get hx
          obtain ⟨_, rfl⟩ := int_get hy
          have sZ := same_upd0 (o := .tup [.int (co r k), .int (co c k)]) hZ
          refine ⟨Z, _, rfl, SqT.of upd_same, rfl, _, _, rfl, _, _, rfl, rfl, rfl, _, rfl, _, rfl, _, _, rfl, rfl, o.km r rm c cm k, _, sZ _ _ e10, ?_, fun b o e => ?_, ?_⟩
          · unfold dotn
            rw [List.length_map, tb_len]
            exact small1000 (by omega)
          · rw [upd_ne (ne_of_none e hE2)]
            exact sZ _ _ (s10 _ _ e)
          · rw [upd_same]
            unfold dotn tb
            rw [List.range_succ, List.map_append, List.map_append]
            rfl
        · obtain ⟨s10, e10⟩ := hP
          rw [List.length_map] at e10
          have dz : (dotn r c r.length).sum = 0 := o.kz r rm c cm
          refine ⟨E2, _, rfl, SqL.of e10, rfl, _, s10 _ _ e9, ?_, fun b o e => ?_, ?_⟩
          · rw [List.length_replicate]
            exact small1000 (by omega)
          · rw [upd_ne (ne_of_none e hE)]
            exact s10 _ _ (s9 _ _ e)
          · rw [upd_same, dz, decide_eq_true rfl, List.replicate_succ']
            rfl
      · obtain ⟨s9, e9⟩ := hP
        rw [List.length_map] at e9
        refine ⟨E1, List.replicate as'.length false, rfl, SqL.of (by rw [e9, List.map_replicate]), false, ?_, iteF ⟨_, rfl, fun b o e => s9 _ _ (s11 _ _ e)⟩⟩
        have e : (List.replicate as'.length false).any id = false := by
          rw [List.any_eq_false]
          intro x hx
          rw [(List.mem_replicate.mp hx).2]
          exact Bool.false_ne_true
        rw [e]
    · obtain ⟨y3, rfl, s11⟩ := hP
      exact q H11 (s010.trans (Sts.of s11)) (t10.same s11)
end
end K01

set_option Elab.async false
set_option linter.all false
set_option maxRecDepth 100000
set_option maxHeartbeats 2000000
set_option exponentiation.threshold 10000
/-! kernels and products: the plain law -/
namespace K01
open PySem PySem.Spec PyProof.Rows L2 FDivQ LA
/-! ### the least common multiple of the leads -/
theorem wst_dvd (a : Int) (t : List Int) : a ∣ wst a t := ⟨_, rfl⟩
theorem wst_lead (a : Int) (t : List Int) : le0 t ∣ wst a t := by
  unfold wst
  have d1 : ((Nat.gcd a.natAbs (le0 t).natAbs : Nat) : Int) ∣ a := Int.ofNat_dvd_left.mpr (Nat.gcd_dvd_left ..)
  have d2 : ((Nat.gcd a.natAbs (le0 t).natAbs : Nat) : Int) ∣ le0 t := Int.ofNat_dvd_left.mpr (Nat.gcd_dvd_right ..)
  have e2 := fdiv_ex d2
  obtain ⟨q, hq⟩ := d1
  generalize ((Nat.gcd a.natAbs (le0 t).natAbs : Nat) : Int) = g at *
  refine ⟨q, ?_⟩
  have : a * (le0 t).fdiv g = g * (le0 t).fdiv g * q := by grind
  rw [this, e2]
theorem gcd_ne2 {a b : Int} (h : b ≠ 0) : ((Nat.gcd a.natAbs b.natAbs : Nat) : Int) ≠ 0 := by
  have := Nat.gcd_pos_of_pos_right a.natAbs (show 0 < b.natAbs by omega)
  omega
theorem gq_le {a : Int} {t : List Int} (h : le0 t ≠ 0) : ((le0 t).fdiv (Nat.gcd a.natAbs (le0 t).natAbs : Nat)).natAbs ≤ (le0 t).natAbs :=
  quot_le (fdiv_ex (Int.ofNat_dvd_left.mpr (Nat.gcd_dvd_right ..))) (gcd_ne2 h)
theorem gq_ne {a : Int} {t : List Int} (h : le0 t ≠ 0) : (le0 t).fdiv (Nat.gcd a.natAbs (le0 t).natAbs : Nat) ≠ 0 := fun z => by
  have e := fdiv_ex (Int.ofNat_dvd_left.mpr (Nat.gcd_dvd_right a.natAbs (le0 t).natAbs) : ((Nat.gcd a.natAbs (le0 t).natAbs : Nat) : Int) ∣ le0 t)
  rw [z, Int.mul_zero] at e
  exact h e.symm
theorem wst_le {a : Int} {t : List Int} (h : le0 t ≠ 0) : (wst a t).natAbs ≤ a.natAbs * (le0 t).natAbs := by
  unfold wst
  rw [Int.natAbs_mul]
  exact Nat.mul_le_mul_left _ (gq_le h)
theorem wst_ne {a : Int} {t : List Int} (ha : a ≠ 0) (h : le0 t ≠ 0) : wst a t ≠ 0 := Int.mul_ne_zero ha (gq_ne h)
theorem whl_aux {B : Nat} : ∀ (T : List (List Int)) (a : Int), a ≠ 0 → (∀ t ∈ T, le0 t ≠ 0 ∧ (le0 t).natAbs ≤ B) → T.foldl wst a ≠ 0 ∧ a ∣ T.foldl wst a ∧ (∀ t ∈ T, le0 t ∣ T.foldl wst a) ∧ (T.foldl wst a).natAbs ≤ a.natAbs * B ^ T.length
  | [], a, ha, _ => ⟨ha, Int.dvd_refl _, fun t ht => absurd ht List.not_mem_nil, by show a.natAbs ≤ a.natAbs * 1; omega⟩
  | t :: T, a, ha, h => by
    obtain ⟨ht, hb⟩ := h t List.mem_cons_self
    obtain ⟨h1, h2, h3, h4⟩ := whl_aux T (wst a t) (wst_ne ha ht) fun u hu => h u (List.mem_cons_of_mem _ hu)
    rw [List.foldl_cons]
    refine ⟨h1, Int.dvd_trans (wst_dvd a t) h2, fun u hu => ?_, ?_⟩
    · rcases List.mem_cons.mp hu with rfl | hu
      · exact Int.dvd_trans (wst_lead a u) h2
      · exact h3 u hu
    · refine Nat.le_trans h4 ?_
      rw [List.length_cons, Nat.pow_succ, Nat.mul_comm (B ^ T.length), ← Nat.mul_assoc]
      exact Nat.mul_le_mul_right _ (Nat.le_trans (wst_le ht) (Nat.mul_le_mul_left _ hb))
theorem whl_ok {B : Nat} {T : List (List Int)} (h : ∀ t ∈ T, le0 t ≠ 0 ∧ (le0 t).natAbs ≤ B) : whl T ≠ 0 ∧ (∀ t ∈ T, le0 t ∣ whl T) ∧ (whl T).natAbs ≤ B ^ T.length := by
  obtain ⟨h1, _, h3, h4⟩ := whl_aux T 1 (by decide) h
  exact ⟨h1, h3, by rw [show (1 : Int).natAbs = 1 from rfl, Nat.one_mul] at h4; exact h4⟩
theorem kok {B : Nat} {T : List (List Int)} (h : ∀ t ∈ T, le0 t ≠ 0) (hb : ∀ t ∈ T, ∀ j, (co t j).natAbs ≤ B) (h1 : 1 ≤ B) (hB : B ^ (T.length + 1) < 2 ^ 4470) : KOk T := by
  have hle : ∀ t ∈ T, le0 t ≠ 0 ∧ (le0 t).natAbs ≤ B := fun t ht => ⟨h t ht, hb t ht _⟩
  obtain ⟨w0, w1, w2⟩ := whl_ok hle
  have pw : ∀ k, k ≤ T.length → B ^ k * B ≤ B ^ (T.length + 1) := fun k hk => by
    rw [← Nat.pow_succ]
    exact Nat.pow_le_pow_right h1 (by omega)
  have b1 : ∀ t ∈ T, ∀ j, (co t j).natAbs < 2 ^ 4470 := fun t ht j => Nat.lt_of_le_of_lt (hb t ht j) (Nat.lt_of_le_of_lt (by have := pw 0 (Nat.zero_le _); rwa [Nat.pow_zero, Nat.one_mul] at this) hB)
  have wb : (whl T).natAbs < 2 ^ 4470 := Nat.lt_of_le_of_lt w2 (Nat.lt_of_le_of_lt (Nat.pow_le_pow_right h1 (by omega)) hB)
  have pre : ∀ A t C, T = A ++ t :: C → (whl A).natAbs < 2 ^ 4470 ∧ t ∈ T := fun A t C e => by
    have hA : ∀ u ∈ A, le0 u ≠ 0 ∧ (le0 u).natAbs ≤ B := fun u hu => hle u (by rw [e]; exact List.mem_append.mpr (.inl hu))
    refine ⟨Nat.lt_of_le_of_lt (whl_ok hA).2.2 (Nat.lt_of_le_of_lt (Nat.pow_le_pow_right h1 ?_) hB), by rw [e]; simp⟩
    rw [e, List.length_append]
    omega
  refine ⟨fun A t C e => ?_, fun A t C e => ?_, fun t ht => ?_, fun t ht f => ?_, fun t ht f => ?_, fun t ht f => ?_⟩
  · obtain ⟨p1, p2⟩ := pre A t C e
    exact cdiv_of (gcd_ne2 (h t p2)) (Int.ofNat_dvd_left.mpr (Nat.gcd_dvd_right ..)) (b1 t p2 _)
  · obtain ⟨p1, p2⟩ := pre A t C e
    exact cmul_of p1 (Nat.lt_of_le_of_lt (gq_le (h t p2)) (b1 t p2 _))
  · exact cdiv_of (h t ht) (w1 t ht) wb
  · refine cmul_of ?_ (b1 t ht f)
    rw [Int.natAbs_neg]
    exact Nat.lt_of_le_of_lt (quot_le (fdiv_ex (w1 t ht)) (h t ht)) wb
  · exact cmul_of wb (b1 t ht f)
  · refine cdiv_of (h t ht) (Int.dvd_trans (w1 t ht) ⟨_, rfl⟩) ?_
    rw [Int.natAbs_mul]
    exact Nat.lt_of_le_of_lt (Nat.le_trans (Nat.mul_le_mul w2 (hb t ht f)) (pw T.length (Nat.le_refl _))) hB
/-! ### the rows of the kernel -/
theorem co_set {l : List Int} {i j : Nat} {x : Int} : co (l.set i x) j = if j = i ∧ i < l.length then x else co l j := by
  unfold co
  rw [List.getD_eq_getElem?_getD, List.getD_eq_getElem?_getD, List.getElem?_set]
  by_cases c : j = i
  · subst c
    by_cases d : j < l.length
    · rw [if_pos rfl, if_pos d, if_pos ⟨rfl, d⟩]
      rfl
    · rw [if_pos rfl, if_neg d, if_neg fun z => d z.2, List.getElem?_eq_none (by omega)]
  · rw [if_neg (Ne.symm c), if_neg fun z => c z.1]
theorem fold_out {W : Int} {f j : Nat} : ∀ (T : List (List Int)) (o : List Int), (∀ t ∈ T, ld t ≠ j) → co (T.foldl (kst W f) o) j = co o j
  | [], _, _ => rfl
  | t :: T, o, h => by
    rw [List.foldl_cons, fold_out T _ fun u hu => h u (List.mem_cons_of_mem _ hu)]
    unfold kst
    rw [co_set, if_neg fun z => h t List.mem_cons_self z.1.symm]
theorem fold_in {W : Int} {f : Nat} {t : List Int} {C : List (List Int)} (A : List (List Int)) (o : List Int) (hC : ∀ u ∈ C, ld u ≠ ld t) (hl : ld t < o.length) : co ((A ++ t :: C).foldl (kst W f) o) (ld t) = -(W.fdiv (le0 t)) * co t f := by
  rw [List.foldl_append, List.foldl_cons, fold_out C _ hC]
  have e := fold_len (kst_len W f) A o
  generalize List.foldl (kst W f) o A = o2 at e ⊢
  show co (o2.set (ld t) _) (ld t) = _
  rw [co_set, if_pos ⟨rfl, by omega⟩]
theorem co_k0 {W : Int} {w f j : Nat} (hf : f < w) : co (k0 W w f) j = if j = f then W else 0 := by
  unfold k0
  rw [co_set, List.length_replicate]
  by_cases c : j = f
  · rw [if_pos ⟨c, hf⟩, if_pos c]
  · rw [if_neg fun z => c z.1, if_neg c]
    by_cases d : j < w
    · unfold co
      rw [List.getD_eq_getElem?_getD, List.getElem?_replicate, if_pos d]
      rfl
    · exact co_far (by rw [List.length_replicate]; omega)
theorem mem_frees {T : List (List Int)} {w f : Nat} : f ∈ frees T w ↔ f < w ∧ ∀ t ∈ T, ld t ≠ f := by
  unfold frees
  rw [List.mem_filter, List.mem_range]
  constructor
  · rintro ⟨h1, h2⟩
    refine ⟨h1, fun t ht e => ?_⟩
    have : (T.map ld).contains f = true := List.contains_iff_mem.mpr (List.mem_map.mpr ⟨t, ht, e⟩)
    rw [this] at h2
    cases h2
  · rintro ⟨h1, h2⟩
    refine ⟨h1, ?_⟩
    have : (T.map ld).contains f = false := by
      rw [Bool.eq_false_iff]
      intro z
      obtain ⟨t, ht, e⟩ := List.mem_map.mp (List.contains_iff_mem.mp z)
      exact h2 t ht e
    rw [this]
    rfl
theorem frees_cnt {T : List (List Int)} {w : Nat} (hl : ∀ t ∈ T, ld t < w) (hn : (T.map ld).Nodup) : (frees T w).length + T.length = w := by
  have p : List.Perm (frees T w ++ T.map ld) (List.range w) := (List.perm_ext_iff_of_nodup (List.nodup_append.mpr ⟨List.nodup_range.filter _, hn, fun a ha b hb e => by
      obtain ⟨t, ht, q⟩ := List.mem_map.mp hb
      exact (mem_frees.mp ha).2 t ht (q.trans e.symm)⟩) List.nodup_range).mpr fun a => by
    rw [List.mem_append, List.mem_range]
    constructor
    · rintro (h | h)
      · exact (mem_frees.mp h).1
      · obtain ⟨t, ht, q⟩ := List.mem_map.mp h
        exact q ▸ hl t ht
    · intro h
      by_cases c : ∀ t ∈ T, ld t ≠ a
      · exact .inl (mem_frees.mpr ⟨h, c⟩)
      · obtain ⟨t, ht⟩ := Classical.not_forall.mp c
        obtain ⟨h1, h2⟩ := Classical.not_imp.mp ht
        exact .inr (List.mem_map.mpr ⟨t, h1, Classical.not_not.mp h2⟩)
  have := p.length_eq
  rwa [List.length_append, List.length_map, List.length_range] at this
theorem lst_kst {T : List (List Int)} {W : Int} {f : Nat} (h : ∀ t ∈ T, le0 t ≠ 0 ∧ le0 t ∣ W) : ∀ (U : List (List Int)) (o : List Int), (∀ t ∈ U, t ∈ T) → U.foldl (lst' W f) o = U.foldl (kst W f) o
  | [], _, _ => rfl
  | t :: U, o, hU => by
    rw [List.foldl_cons, List.foldl_cons, lst_kst h U _ fun u hu => hU u (List.mem_cons_of_mem _ hu)]
    congr 1
    obtain ⟨h0, q, hq⟩ := h t (hU t List.mem_cons_self)
    unfold lst' kst
    congr 1
    rw [hq, Int.mul_assoc, Int.mul_fdiv_cancel_left _ h0, Int.mul_fdiv_cancel_left _ h0]
    grind
theorem S_two {g : Nat → Int} {n p q : Nat} (hp : p < n) (hq : q < n) (hpq : p ≠ q) (h : ∀ i, i < n → i ≠ p → i ≠ q → g i = 0) : S n g = g p + g q := by
  have e : S n g = S n (fun i => (if i = p then g i else 0) + (if i = p then 0 else g i)) := S_congr fun i _ => by
    by_cases c : i = p
    · rw [if_pos c, if_pos c, Int.add_zero]
    · rw [if_neg c, if_neg c, Int.zero_add]
  rw [e, S_add, S_one hp fun i _ hne => by rw [if_neg hne], S_one hq fun i hi hne => by
    by_cases c : i = p
    · rw [if_pos c]
    · rw [if_neg c]
      exact h i hi c hne]
  rw [if_pos rfl, if_neg (Ne.symm hpq)]
theorem tb_sum (f : Nat → Int) : ∀ n, (tb n f).sum = S n f
  | 0 => rfl
  | n + 1 => by
    unfold tb
    rw [List.range_succ, List.map_append, List.sum_append]
    have ih := tb_sum f n
    unfold tb at ih
    rw [ih]
    show S n f + (f n + 0) = S n f + f n
    rw [Int.add_zero]
theorem dot_S (k r : List Int) : dot k r = S k.length fun j => co k j * co r j := tb_sum _ _
structure Kv (n : Nat) (T : List (List Int)) : Prop where
  free : ∀ f ∈ frees T n, ∀ g ∈ frees T n, co (kone T n f) g = if g = f then whl T else 0
  dot : ∀ f ∈ frees T n, ∀ t ∈ T, S n (fun j => co (kone T n f) j * co t j) = 0
  nz : whl T ≠ 0
  bd : ∀ B, (∀ t ∈ T, ∀ j, (co t j).natAbs ≤ B) → 1 ≤ B → ∀ f ∈ frees T n, ∀ j, (co (kone T n f) j).natAbs ≤ B ^ (T.length + 1)
theorem Told.nodup {w M : Nat} {rows T : List (List Int)} (h : Told w M rows T) : (T.map ld).Nodup := by
  unfold List.Nodup
  rw [List.pairwise_iff_getElem]
  intro i j hi hj hij e
  rw [List.length_map] at hi hj
  rw [List.getElem_map, List.getElem_map] at e
  have hz := h.z i j hi hj (by omega)
  have g : ∀ k, (hk : k < T.length) → T.getD k [] = T[k] := fun k hk => by rw [List.getD_eq_getElem?_getD, List.getElem?_eq_getElem hk]; rfl
  unfold row at hz
  rw [g i hi, g j hj, e] at hz
  exact h.nz _ (List.getElem_mem hj) hz
theorem Told.split {w M : Nat} {rows T : List (List Int)} (h : Told w M rows T) {t : List Int} (ht : t ∈ T) : ∃ A C, T = A ++ t :: C ∧ (∀ u ∈ C, ld u ≠ ld t) ∧ ∀ u ∈ T, u ≠ t → co t (ld u) = 0 := by
  obtain ⟨i, hi, e⟩ := List.mem_iff_getElem.mp ht
  have g : ∀ k, (hk : k < T.length) → T.getD k [] = T[k] := fun k hk => by rw [List.getD_eq_getElem?_getD, List.getElem?_eq_getElem hk]; rfl
  obtain ⟨A, C, es⟩ := List.append_of_mem ht
  refine ⟨A, C, es, fun u hu eq => ?_, fun u hu ne => ?_⟩
  · have nd := h.nodup
    rw [es, List.map_append, List.map_cons] at nd
    have := (List.nodup_append.mp nd).2.1
    exact (List.nodup_cons.mp this).1 (List.mem_map.mpr ⟨u, hu, eq⟩)
  · obtain ⟨k, hk, e2⟩ := List.mem_iff_getElem.mp hu
    have hki : i ≠ k := fun z => by
      subst z
      exact ne (e2.symm.trans e)
    have hz := h.z k i hk hi hki
    unfold row at hz
    rw [g k hk, g i hi, e, e2] at hz
    exact hz
theorem kv {n M : Nat} {rows T : List (List Int)} (h : Told n M rows T) : Kv n T := by
  have hle : ∀ B, (∀ t ∈ T, ∀ j, (co t j).natAbs ≤ B) → ∀ t ∈ T, le0 t ≠ 0 ∧ (le0 t).natAbs ≤ B := fun B hB t ht => ⟨h.nz t ht, hB t ht _⟩
  obtain ⟨w0, w1, _⟩ := whl_ok (hle _ h.bd)
  have out : ∀ f ∈ frees T n, ∀ j, (∀ t ∈ T, ld t ≠ j) → co (kone T n f) j = if j = f then whl T else 0 := fun f hf j hj => by
    unfold kone
    rw [fold_out T _ hj, co_k0 (frees_lt hf)]
  have inn : ∀ f ∈ frees T n, ∀ t ∈ T, co (kone T n f) (ld t) = -((whl T).fdiv (le0 t)) * co t f := fun f hf t ht => by
    obtain ⟨A, C, es, hC, _⟩ := h.split ht
    unfold kone
    generalize whl T = W
    rw [es]
    exact fold_in A _ hC (by rw [k0_len]; exact h.lt t ht)
  refine ⟨fun f hf g hg => out f hf g (mem_frees.mp hg).2, fun f hf t ht => ?_, w0, fun B hB h1 f hf j => ?_⟩
  · obtain ⟨fn, fl⟩ := mem_frees.mp hf
    obtain ⟨A, C, es, hC, hz⟩ := h.split ht
    rw [S_two fn (h.lt t ht) (Ne.symm (fl t ht)) fun j hj h1 h2 => ?_]
    · rw [out f hf f fl, if_pos rfl, inn f hf t ht]
      have e := fdiv_ex (w1 t ht)
      generalize (whl T).fdiv (le0 t) = q at e
      rw [← e]
      grind
    · by_cases c : ∃ u ∈ T, ld u = j
      · obtain ⟨u, hu, eu⟩ := c
        rw [← eu, hz u hu fun z => h2 (by rw [← eu, z]), Int.mul_zero]
      · rw [out f hf j fun u hu e => c ⟨u, hu, e⟩, if_neg h1, Int.zero_mul]
  · have w2 := (whl_ok (hle B hB)).2.2
    have p1 : B ^ T.length ≤ B ^ (T.length + 1) := Nat.pow_le_pow_right h1 (by omega)
    by_cases c : ∃ u ∈ T, ld u = j
    · obtain ⟨u, hu, eu⟩ := c
      rw [← eu, inn f hf u hu, Int.natAbs_mul, Int.natAbs_neg, Nat.pow_succ]
      exact Nat.mul_le_mul (Nat.le_trans (quot_le (fdiv_ex (w1 u hu)) (h.nz u hu)) w2) (hB u hu f)
    · rw [out f hf j fun u hu e => c ⟨u, hu, e⟩]
      by_cases d : j = f
      · rw [if_pos d]
        exact Nat.le_trans w2 p1
      · rw [if_neg d]
        exact Nat.zero_le _
end K01

set_option Elab.async false
set_option linter.all false
set_option maxRecDepth 100000
set_option maxHeartbeats 2000000
set_option exponentiation.threshold 10000
/-! tables of at most six rows and columns: all is as asked -/
namespace K01
open PySem PySem.Spec PyProof.Rows L2 FDivQ LA
theorem _root_.LA.Base.congr {w n r : Nat} {A A' E : Nat → Nat → Int} (h : Base w n A r E) (e : ∀ i, i < n → ∀ j, j < w → A i j = A' i j) : Base w n A' r E :=
  ⟨h.ind, fun k hk => by
    obtain ⟨c, hc, a, ha⟩ := h.of k hk
    exact ⟨c, hc, a, fun j hj => by rw [ha j hj]; exact S_congr fun i hi => by rw [e i hi j hj]⟩, fun i hi => Sp.div (c := 1) (by decide) (h.to i hi) fun j hj => by rw [Int.one_mul, e i hi j hj]⟩
theorem Told.le_n {n M : Nat} {rows T : List (List Int)} (h : Told n M rows T) : T.length ≤ n := by
  refine Classical.byContradiction fun c => ?_
  obtain ⟨y, ⟨i, hi, hy⟩, he⟩ := dep n T.length (row T) (by omega)
  exact hy (h.base.ind y he i hi)
theorem ech_len_le (le : List Int → List Int → Nat → List Int) (rows : List (List Int)) (n : Nat) : (ech le rows n).length ≤ rows.length := by
  unfold ech
  rw [List.length_map]
  have := eS_cnt le rows n
  omega
abbrev MX : Nat := 2 ^ 86
theorem num6 : Bd 6 MX < 2 ^ 4470 := by decide +kernel
theorem num7 : (Bd 6 MX) ^ 7 < 2 ^ 4470 := by decide +kernel
theorem numW (r : Nat) (h : r ≤ 6) : Bd (6 - r) ((Bd r MX + 1) ^ (r + 1)) < 2 ^ 4470 := by
  have : r = 0 ∨ r = 1 ∨ r = 2 ∨ r = 3 ∨ r = 4 ∨ r = 5 ∨ r = 6 := by omega
  rcases this with rfl | rfl | rfl | rfl | rfl | rfl | rfl <;> decide +kernel
theorem mx_sho {x : Int} (h : x.natAbs ≤ MX) : Sho x := by
  unfold Sho
  have h2 : MX < 10 ^ 60 := by decide +kernel
  exact Nat.lt_of_le_of_lt h h2
/-- a table whose entries are not too great -/
structure Sm (rows : List (List Int)) (n : Nat) : Prop where
  l1 : 1 ≤ rows.length
  l2 : rows.length ≤ 6
  n1 : 1 ≤ n
  n2 : n ≤ 6
  ln : ∀ r ∈ rows, r.length = n
  bd : ∀ r ∈ rows, ∀ x ∈ r, x.natAbs ≤ MX
theorem Sm.tz {rows : List (List Int)} {n : Nat} (h : Sm rows n) : Tz rows n := ⟨h.l1, by have := h.l2; omega, h.n1, by have := h.n2; omega, h.ln, fun r hr x hx => mx_sho (h.bd r hr x hx)⟩
theorem Sm.num {rows : List (List Int)} {n : Nat} (h : Sm rows n) : Bd rows.length MX < 2 ^ 4470 := Nat.lt_of_le_of_lt (Bd_mono h.l2) num6
theorem Sm.td {rows : List (List Int)} {n : Nat} (h : Sm rows n) : Told n MX rows (ech less rows n) := K01.told lePP h.ln h.bd
theorem Sm.tn {rows : List (List Int)} {n : Nat} (h : Sm rows n) : Sm (turn rows n) rows.length := by
  have tl : (K01.turn rows n).length = n := by
    unfold K01.turn
    rw [List.length_map, List.length_range]
  refine ⟨by rw [tl]; exact h.n1, by rw [tl]; exact h.n2, h.l1, h.l2, fun r hr => ?_, fun r hr x hx => ?_⟩
  · obtain ⟨j, _, rfl⟩ := List.mem_map.mp hr
    rw [List.length_map]
  · obtain ⟨j, hj, rfl⟩ := List.mem_map.mp hr
    obtain ⟨r, hr2, rfl⟩ := List.mem_map.mp hx
    exact h.bd r hr2 _ (co_mem (by rw [h.ln r hr2]; exact List.mem_range.mp hj))
theorem turn_len (rows : List (List Int)) (n : Nat) : (turn rows n).length = n := by
  unfold turn
  rw [List.length_map, List.length_range]
theorem row_turn {rows : List (List Int)} {n i j : Nat} (hj : j < n) : row (turn rows n) j i = row rows i j := by
  unfold turn
  have e : row ((List.range n).map fun j => rows.map fun r => co r j) j = co (rows.map fun r => co r j) := by
    unfold row
    rw [List.getD_eq_getElem?_getD, List.getElem?_map, List.getElem?_range hj]
    rfl
  rw [e]
  by_cases c : i < rows.length
  · unfold row
    rw [co_get (by rw [List.length_map]; exact c), List.getElem_map, List.getD_eq_getElem?_getD, List.getElem?_eq_getElem c]
    rfl
  · rw [co_far (by rw [List.length_map]; omega)]
    unfold row
    rw [List.getD_eq_getElem?_getD, List.getElem?_eq_none (by omega)]
    exact (co_far (Nat.zero_le _)).symm
theorem Sm.rank_tn {rows : List (List Int)} {n : Nat} (h : Sm rows n) : (ech less (turn rows n) rows.length).length = (ech less rows n).length := by
  have h1 := h.td.base
  have h2 := h.tn.td.base
  rw [turn_len] at h2
  exact (h1.turned (h2.congr fun j hj i _ => row_turn hj)).symm
theorem row_mm {A C : List (List Int)} {i j : Nat} (hi : i < A.length) (hj : j < C.length) : row (mm A C) i j = dot (A.getD i []) (C.getD j []) := by
  unfold mm
  rw [row_map hi]
  rw [co_get (by rw [List.length_map]; exact hj), List.getElem_map, List.getD_eq_getElem?_getD (l := C), List.getElem?_eq_getElem hj]
  rfl
theorem mm_len (A C : List (List Int)) : (mm A C).length = A.length := by
  unfold mm
  rw [List.length_map]
theorem row_prod {A B : List (List Int)} {m n i j : Nat} (hA : ∀ r ∈ A, r.length = m) (hi : i < A.length) (hj : j < n) : row (mm A (turn B n)) i j = S m fun k => row A i k * row B k j := by
  rw [row_mm hi (by rw [turn_len]; exact hj), dot_S, hA _ (mem_row hi)]
  exact S_congr fun k _ => by rw [show co ((turn B n).getD j []) k = row (turn B n) j k from rfl, row_turn hj]
theorem rank_right {A B : List (List Int)} {m n : Nat} (hA : Sm A m) (hB : Sm B n) (hm : B.length = m) (hP : Sm (mm A (turn B n)) n) : (ech less (mm A (turn B n)) n).length ≤ (ech less B n).length := by
  have h1 := hP.td.base
  have h2 := hB.td.base
  rw [mm_len] at h1
  rw [hm] at h2
  exact Base.prod_right (u := A.length) (v := m) (A := row A) (B := row B) (h1.congr fun i hi j hj => row_prod hA.ln hi hj) h2
theorem rank_left {A B : List (List Int)} {m n : Nat} (hA : Sm A m) (hB : Sm B n) (hm : B.length = m) (hP : Sm (mm A (turn B n)) n) : (ech less (mm A (turn B n)) n).length ≤ (ech less A m).length := by
  rw [← hP.rank_tn, ← hA.rank_tn]
  have h1 := hP.tn.td.base
  have h2 := hA.tn.td.base
  rw [turn_len] at h1 h2
  rw [mm_len] at h1 ⊢
  exact Base.prod_right (u := n) (v := m) (w := A.length) (A := fun j k => row B k j) (B := row (turn A m)) (h1.congr fun j hj i hi => by
    rw [row_turn hj, row_prod hA.ln hi hj]
    exact S_congr fun k hk => by rw [row_turn hk, Int.mul_comm]) h2
theorem rtok {rows : List (List Int)} {n : Nat} (h : Sm rows n) : RtOk rows n := by
  have hT := h.td
  have e1 := ech_eq h.ln
  have l6 := h.l2
  have n6 := h.n2
  have n1 := h.n1
  have r6 : (ech less rows n).length ≤ 6 := Nat.le_trans (ech_len_le less rows n) l6
  have rl := hT.le_n
  have eP := eokP h.ln h.bd h.num
  have eL := eokL h.ln h.bd h.num
  have tr := h.rank_tn
  generalize hTl : ech less rows n = T at hT e1 r6 rl tr
  have lead : ∀ t ∈ T, t.length = n ∧ ld t < n := fun t ht => ⟨hT.len t ht, hT.lt t ht⟩
  have kv1 := kv hT
  have B1 : 1 ≤ Bd 6 MX := by decide +kernel
  have ko : KOk T := kok (B := Bd 6 MX) hT.nz (fun t ht j => Nat.le_trans (hT.bd t ht j) (Bd_mono r6)) B1 (Nat.lt_of_le_of_lt (Nat.pow_le_pow_right B1 (by omega)) num7)
  have cnt := frees_cnt hT.lt hT.nodup
  have kl : ∀ r ∈ kvs T n, r.length = n := fun r hr => by
    obtain ⟨f, _, rfl⟩ := List.mem_map.mp hr
    exact kone_len _ _ _
  have kb : ∀ r ∈ kvs T n, ∀ x ∈ r, x.natAbs ≤ (Bd T.length MX + 1) ^ (T.length + 1) := fun r hr x hx => by
    obtain ⟨f, hf, rfl⟩ := List.mem_map.mp hr
    obtain ⟨j, _, e⟩ := mem_co hx
    rw [← e]
    exact kv1.bd _ (fun t ht j => Nat.le_succ_of_le (hT.bd t ht j)) (Nat.succ_pos _) f hf j
  have kc : (kvs T n).length = (frees T n).length := List.length_map ..
  have kn : Bd (kvs T n).length ((Bd T.length MX + 1) ^ (T.length + 1)) < 2 ^ 4470 := Nat.lt_of_le_of_lt (Bd_mono (by omega)) (numW T.length r6)
  have ek : lkvs T n = kvs T n := by
    unfold lkvs kvs
    refine List.map_congr_left fun f _ => ?_
    unfold lkone kone
    exact lst_kst (T := T) (fun t ht => ⟨hT.nz t ht, (whl_ok fun u hu => ⟨hT.nz u hu, hT.bd u hu _⟩).2.1 t ht⟩) T _ fun u hu => hu
  have hK := K01.told lePP kl kb
  have kk : kern rows n = ech less (kvs T n) n := by
    unfold kern
    rw [hTl]
  have ind : Ind n (kvs T n).length (row (kvs T n)) := by
    have fg : ∀ i, i < (kvs T n).length → (frees T n).getD i 0 ∈ frees T n ∧ row (kvs T n) i = co (kone T n ((frees T n).getD i 0)) := fun i hi => by
      rw [kc] at hi
      refine ⟨by rw [List.getD_eq_getElem?_getD, List.getElem?_eq_getElem hi]; exact List.getElem_mem hi, ?_⟩
      unfold row kvs
      rw [List.getD_eq_getElem?_getD, List.getD_eq_getElem?_getD, List.getElem?_map, List.getElem?_eq_getElem hi]
      rfl
    refine Ech.ind (lead := fun i => (frees T n).getD i 0) ⟨fun i hi => frees_lt (fg i hi).1, fun i hi => ?_, fun i k hi hk hne => ?_⟩
    · rw [(fg i hi).2, kv1.free _ (fg i hi).1 _ (fg i hi).1, if_pos rfl]
      exact kv1.nz
    · rw [(fg k hk).2, kv1.free _ (fg k hk).1 _ (fg i hi).1, if_neg fun e => hne ?_]
      have nd : (frees T n).Nodup := List.nodup_range.filter _
      rw [kc] at hi hk
      rw [List.getD_eq_getElem?_getD, List.getD_eq_getElem?_getD, List.getElem?_eq_getElem hi, List.getElem?_eq_getElem hk] at e
      exact ((List.getElem_inj nd).mp e).symm
  have kcount : (ech less (kvs T n) n).length = (kvs T n).length := hK.base.ind_all ind
  refine ⟨⟨h.tz, eP, ?_, ?_, ?_⟩, eL, ?_, ?_, ?_, ?_, ?_, ?_, h.tn.tz, eokP h.tn.ln h.tn.bd h.tn.num, ?_, fun k hk => ?_, fun k hk r hr => ?_, fun k hk r hr i => ?_⟩
  · rw [hTl]; exact lead
  · rw [hTl]; exact ko
  · rw [hTl]; exact eokP kl kb kn
  · rw [← e1]; exact lead
  · rw [← e1]; exact ko
  · rw [← e1, ek]; exact eokL kl kb kn
  · rw [← e1, ek, kk, ech_eq kl]
  · rw [← e1, hTl]
  · rw [hTl, kk, kcount, kc]; omega
  · rw [hTl]; exact tr
  · rw [kk] at hk
    exact hK.len k hk
  · rw [kk] at hk
    rw [dot_S, hK.len k hk]
    obtain ⟨i, hi, ei⟩ := row_mem hk
    have s1 := hK.base.of i hi
    rw [ei] at s1
    have e : S n (fun j => co k j * co r j) = S n (fun j => co r j * co k j) := S_congr fun j _ => Int.mul_comm _ _
    rw [e]
    refine s1.perp fun a ha => ?_
    have ra := mem_row ha
    obtain ⟨f, hf, ef⟩ := List.mem_map.mp ra
    obtain ⟨b, hb, eb⟩ := row_mem hr
    have s2 := hT.base.to b hb
    rw [eb] at s2
    have e2 : S n (fun j => co r j * row (kvs T n) a j) = S n (fun j => co (kone T n f) j * co r j) := S_congr fun j _ => by
      unfold row
      rw [← ef, Int.mul_comm]
    rw [e2]
    refine s2.perp fun c hc => ?_
    exact kv1.dot f hf _ (mem_row hc)
  · rw [kk] at hk
    refine cmul_of (Nat.lt_of_le_of_lt (hK.bd k hk i) ?_) (Nat.lt_of_le_of_lt (co_bd h.bd hr i) (by decide +kernel))
    rw [kcount]
    exact kn
end K01

set_option Elab.async false
set_option linter.all false
set_option maxRecDepth 100000
set_option exponentiation.threshold 10000
set_option maxHeartbeats 4000000
namespace K01
open PySem PySem.Spec PyProof.Rows L2 StX RZ MyR SlX OwnR OwnF EnumT GxR GenNx FDivQ
theorem eq_sameD {K : PySem.W.Frag} {H : Hp} {x y : V} {d : PyData} {Q : VK} (hx : L2.Dp K H x d) (hy : L2.Dp K H y d) (hl : PyData.canLay0 d = true) (hs : SeqAt.shaped d = true) (q : Q (.bl true) H) : rEqD K x y H Q := by
  refine ⟨d, d, hx, hy, hs, hs, ?_⟩
  rw [SeqAt.eqv_refl d hl]
  exact q
theorem tl2_3 {H : Hp} {t a b c : Addr} {r s u : List Int} (h : H t = some (.tup [.ref a, .ref b, .ref c])) (h1 : H a = some (tp r)) (h2 : H b = some (tp s)) (h3 : H c = some (tp u)) : Tl2 H t [r, s, u] := ⟨[a, b, c], h, h1, h2, h3, True.intro⟩
theorem tl2_2 {H : Hp} {t a b : Addr} {r s : List Int} (h : H t = some (.tup [.ref a, .ref b])) (h1 : H a = some (tp r)) (h2 : H b = some (tp s)) : Tl2 H t [r, s] := ⟨[a, b], h, h1, h2, True.intro⟩
theorem tl2_1 {H : Hp} {t a : Addr} {r : List Int} (h : H t = some (.tup [.ref a])) (h1 : H a = some (tp r)) : Tl2 H t [r] := ⟨[a], h, h1, True.intro⟩
theorem tl2_0 {H : Hp} {t : Addr} (h : H t = some (.tup [])) : Tl2 H t [] := ⟨[], h, True.intro⟩
theorem cA : Sm [[1, 2, 3], [4, 5, 6], [7, 8, 9]] 3 := ⟨by decide, by decide, by decide, by decide, by decide, by decide +kernel⟩
theorem cB : Sm [[2, 4, 0]] 3 := ⟨by decide, by decide, by decide, by decide, by decide, by decide +kernel⟩
theorem cC : Sm [[1, 0], [0, 1]] 2 := ⟨by decide, by decide, by decide, by decide, by decide, by decide +kernel⟩
theorem cD : Sm [[0, 0]] 2 := ⟨by decide, by decide, by decide, by decide, by decide, by decide +kernel⟩
theorem rA : (ech less [[1, 2, 3], [4, 5, 6], [7, 8, 9]] 3).length = 2 := by decide +kernel
theorem kA : kern [[1, 2, 3], [4, 5, 6], [7, 8, 9]] 3 = [[1, -2, 1]] := by decide +kernel
theorem kB : kern [[2, 4, 0]] 3 = [[2, -1, 0], [0, 0, 1]] := by decide +kernel
theorem kC : kern [[1, 0], [0, 1]] 2 = [] := by decide +kernel
theorem kD : kern [[0, 0]] 2 = [[1, 0], [0, 1]] := by decide +kernel
theorem Tl2.sx {d t : Addr} {H H' : Hp} {rows : List (List Int)} (h : Tl2 H t rows) (s : Sx d H H') (hd : Dc H d) : Tl2 H' t rows := by
  obtain ⟨as, h1, h2⟩ := h
  exact ⟨as, s _ _ (dc_ne hd h1) h1, h2.sx s hd⟩
theorem sm_of {rows : List (List Int)} {m n : Nat} {M : Int} (hl : rows.length = m) (m1 : 1 ≤ m) (m6 : m ≤ 6) (n1 : 1 ≤ n) (n6 : n ≤ 6) (h : ∀ r ∈ rows, r.length = n ∧ ∀ x ∈ r, x.natAbs ≤ 2 * M.natAbs) (hM : M.natAbs ≤ 10 ^ 12) : Sm rows n :=
  ⟨by omega, by omega, n1, n6, fun r hr => (h r hr).1, fun r hr x hx => by
    have h1 := (h r hr).2 x hx
    have h2 : 2 * 10 ^ 12 ≤ MX := by decide
    omega⟩
theorem prod_sm {A B : List (List Int)} {m n : Nat} (hA : Sm A m) (hB : Sm B n) (ha : ∀ r ∈ A, ∀ x ∈ r, x.natAbs ≤ 2 * 10 ^ 12) (hb : ∀ r ∈ B, ∀ x ∈ r, x.natAbs ≤ 2 * 10 ^ 12) : Sm (mm A (turn B n)) n := by
  refine ⟨by rw [mm_len]; exact hA.l1, by rw [mm_len]; exact hA.l2, hB.n1, hB.n2, fun r hr => ?_, fun r hr x hx => ?_⟩
  · obtain ⟨a, _, rfl⟩ := List.mem_map.mp hr
    rw [List.length_map, turn_len]
  · obtain ⟨a, hAa, rfl⟩ := List.mem_map.mp hr
    obtain ⟨c, hc, rfl⟩ := List.mem_map.mp hx
    obtain ⟨j, hj, rfl⟩ := List.mem_map.mp hc
    rw [dot_S, hA.ln a hAa]
    have k1 : ∀ i, i < m → (co a i * co (B.map fun r => co r j) i).natAbs ≤ 4 * 10 ^ 24 := fun i hi => by
      rw [Int.natAbs_mul]
      have h1 : (co a i).natAbs ≤ 2 * 10 ^ 12 := ha a hAa _ (co_mem (by rw [hA.ln a hAa]; exact hi))
      have h2 : (co (B.map fun r => co r j) i).natAbs ≤ 2 * 10 ^ 12 := by
        by_cases c : i < (B.map fun r => co r j).length
        · obtain ⟨r, hr2, e⟩ := List.mem_map.mp (co_mem c)
          rw [← e]
          exact hb r hr2 _ (co_mem (by rw [hB.ln r hr2]; exact List.mem_range.mp hj))
        · rw [co_far (by omega)]
          exact Nat.zero_le _
      exact Nat.le_trans (Nat.mul_le_mul h1 h2) (by decide)
    refine Nat.le_trans (LA.S_abs k1) ?_
    have := hA.n2
    refine Nat.le_trans (Nat.mul_le_mul_right _ this) (by decide +kernel)
theorem sm_mulc {A B : List (List Int)} {m n : Nat} (hA : Sm A m) (hB : Sm B n) : ∀ r ∈ A, ∀ c ∈ turn B n, ∀ k, CMulW (co r k) (co c k) := fun r hr c hc k => by
  have e : MX < 2 ^ 4470 := by decide +kernel
  exact cmul_of (Nat.lt_of_le_of_lt (co_bd hA.bd hr k) e) (Nat.lt_of_le_of_lt (co_bd hB.tn.bd hc k) e)
section
variable {P : Program} {w : World} {K : PySem.W.Frag} {mg : Str → Option Value} {base : Heap} {Ps : List Addr}
def spLRight (Ps : List Addr) : Sp := fun vs H Q _ => ∃ d : Addr, vs = [.ref d] ∧ Dp d Ps H ∧ ∀ H', Sy d Ps H H' → Dp d Ps H' → Q (.bl true) H'
theorem ok_law_right (T : Facts K mg) (TB_first_of : TabB base mg T.c_first_of T.P_first_of) (hP : T.P_first_of ∈ Ps) : FnOk P w K mg base CX0 7 T.f_law_right T.fd_law_right ["_law_dice_here"] (spLRight Ps) := by
  have G_law_roll : FnOk P w K mg base CX0 1 T.f_law_roll T.fd_law_roll ["_law_dice_here", "_law_total"] spRoll2 := (ok_law_roll T).imp roll2
  have G_law_pick : FnOk P w K mg base CX0 2 T.f_law_pick T.fd_law_pick ["_law_dice_here", "_law_items"] spPick2 := (ok_law_pick T).imp pick2
  have G_law_some_table := ok_law_some_table (P := P) (w := w) (base := base) T
  have G_table_product := ok_table_product (P := P) (w := w) (base := base) T
  have G_law_matrix := ok_law_matrix (P := P) (w := w) (base := base) T
  have G_rank := ok_rank (P := P) (w := w) (base := base) T TB_first_of hP
  have G_law_table_right := ok_law_table_right (P := P) (w := w) (base := base) T TB_first_of hP
  refine T.F_law_right.ok sc_law_right (fun vs H Q E h => ?_) (fun cdv A outer s H vs Q E hr h => ?_)
  · obtain ⟨d, rfl, _⟩ := h
    rfl
  · obtain ⟨d, rfl, D0, q⟩ := h
    refine ⟨_, (PSs.nox (pss_cons (ps_set (i := 1) sc_law_right.nd rfl (.inl rfl) (pe_call G_law_pick (hr.mono (by decide)) (by rfl) T.g_law_pick T.F_law_pick.kp T.b_law_pick .nil pass0 (pa_cons (pv 0) (pa_cons (pe_lst (pa_cons pe_int (pa_cons pe_int (pa_cons (pe_op op_pow pe_int pe_int) pa_nil)))) pa_nil))))
    (pss_cons (ps_asg (pe_lc (own := [("_law_turn", 5)]) (g := (gName 5)) (tt := tYes) (by rfl) sc_law_right.nd (pi_range1 (by rfl) T.z_range (pa_cons pe_int pa_nil)) (blkOk_by (N := N_law_right) (sc := defScope s_law_right) (by decide +kernel)) (fun _ _ _ _ _ => (pg_name (i := 5) sc_law_right.nd rfl (.inl rfl))) (fun _ _ _ _ _ => pts_nil) (fun _ _ _ _ _ => (pe_op op_add pe_int (pe_call G_law_roll (hr.mono (by decide)) (by rfl) T.g_law_roll T.F_law_roll.kp T.b_law_roll .nil pass0 (pa_cons (pv 0) (pa_cons pe_int pa_nil)))))) (pg_lst (by rfl) (pgs_cons (pg_name (i := 2) sc_law_right.nd rfl (.inl rfl)) (pgs_cons (pg_name (i := 3) sc_law_right.nd rfl (.inl rfl)) (pgs_cons (pg_name (i := 4) sc_law_right.nd rfl (.inl rfl)) pgs_nil)))))
    (pss_cons (ps_par (i := 6) (j := 7) (by rfl) sc_law_right.nd rfl rfl (by decide) rfl rfl (pa_cons (pe_call G_law_some_table (hr.mono (by decide)) (by rfl) T.g_law_some_table T.F_law_some_table.kp T.b_law_some_table .nil pass0 (pa_cons (pv 0) (pa_cons (pv 2) (pa_cons (pv 3) (pa_cons (pv 1) pa_nil))))) (pa_cons (pe_call G_law_some_table (hr.mono (by decide)) (by rfl) T.g_law_some_table T.F_law_some_table.kp T.b_law_some_table .nil pass0 (pa_cons (pv 0) (pa_cons (pv 3) (pa_cons (pv 4) (pa_cons (pv 1) pa_nil))))) pa_nil)) (by rfl))
    (pss_cons (ps_set (i := 8) sc_law_right.nd rfl (.inl rfl) (pe_call G_table_product (hr.mono (by decide)) (by rfl) T.g_table_product T.F_table_product.kp T.b_table_product .nil pass0 (pa_cons (pv 6) (pa_cons (pv 7) pa_nil))))
    (pss_cons (ps_if (pw_or (pt_cmpR (op_neD (hu64 hr)) (pv 8) (pe_call G_law_matrix (hr.mono (by decide)) (by rfl) T.g_law_matrix T.F_law_matrix.kp T.b_law_matrix .nil pass0 (pa_cons (pv 6) (pa_cons (pv 7) pa_nil))) (nomark _)) (pw_or1 (pt_cmpR op_gt (pe_call G_rank (hr.mono (by decide)) (by rfl) T.g_rank T.F_rank.kp T.b_rank .nil pass0 (pa_cons (pv 8) pa_nil)) (pe_callB (call_min2 (by rfl)) (by rfl) T.z_min (by decide +kernel) (pa_cons (pe_call G_rank (hr.mono (by decide)) (by rfl) T.g_rank T.F_rank.kp T.b_rank .nil pass0 (pa_cons (pv 6) pa_nil)) (pa_cons (pe_call G_rank (hr.mono (by decide)) (by rfl) T.g_rank T.F_rank.kp T.b_rank .nil pass0 (pa_cons (pv 7) pa_nil)) pa_nil))) (nomark _)))).pt
      (pss_one (ps_ret pe_bl))
      pss_nil)
    (pss_one (ps_ret (pe_and (pe_call G_law_table_right hr (by rfl) T.g_law_table_right T.F_law_table_right.kp T.b_law_table_right .nil pass0 (pa_cons (pv 6) pa_nil)) (pe_and (pe_call G_law_table_right hr (by rfl) T.g_law_table_right T.F_law_table_right.kp T.b_law_table_right .nil pass0 (pa_cons (pv 7) pa_nil)) (pe_one (pe_call G_law_table_right hr (by rfl) T.g_law_table_right T.F_law_table_right.kp T.b_law_table_right .nil pass0 (pa_cons (pv 8) pa_nil))))))))))))), ?_⟩
    refine ⟨_, rfl, _, _, rfl, rfl, ⟨by decide, by decide, by decide⟩, (show 3 ≤ sizeLine by decide), fun L hL => ?_⟩
    have Ld : L ≠ d := D0.dd.ne hL
    refine ⟨d, L, _, rfl, D0.dd.same (same_upd0 hL), upd_same, Ld, (show 0 < 3 by decide), (show 3 < 1000 by decide), fun v H1 hv s1 d1 => ?_⟩
    obtain ⟨M, rfl, M0, M1⟩ : ∃ M : Int, v = .int M ∧ 0 ≤ M ∧ M ≤ 10 ^ 12 := by
      simp only [List.mem_cons, List.not_mem_nil, or_false] at hv
      rcases hv with rfl | rfl | rfl
      · exact ⟨2, rfl, by decide, by decide⟩
      · exact ⟨5, rfl, by decide, by decide⟩
      · exact ⟨_, rfl, by decide, by decide⟩
    have S1 : Sx d H H1 := fun b o nb e => s1 b o nb (same_upd0 hL _ _ e)
    clear s1 hv hL
    refine ⟨3, rfl, by decide, by decide, fun F hF => ?_⟩
    have Fd : F ≠ d := d1.ne hF
    refine lc_range (n := 3) (fun j H' => ∃ l : List Nat, Sx d H H' ∧ Dc H' d ∧ H' F = some (.lst (l.map fun x : Nat => V.int ((1 + x : Nat) : Int))) ∧ l.length = j ∧ ∀ x ∈ l, x < 6) ⟨[], fun b o nb e => same_upd0 hF _ _ (S1 b o nb e), d1.same (same_upd0 hF), upd_same, rfl, fun x hx => absurd hx List.not_mem_nil⟩ (fun j H' hj hP => ?_) (fun H2 hP => ?_)
    · obtain ⟨l, s2, d2, f2, ll, hl⟩ := hP
      refine ⟨rfl, _, rfl, d, 6, rfl, d2, by decide, by decide, fun r H3 hr s3 d3 => ?_⟩
      refine ⟨_, _, rfl, rfl, _, s3 _ _ Fd f2, by rw [List.length_map, ll]; exact small1000 (by omega), l ++ [r], fun b o nb e => ?_, ?_, ?_, ?_, fun x hx => ?_⟩
      · by_cases c : b = F
        · exfalso
          rw [c] at e
          have := S1 _ _ Fd e
          rw [hF] at this
          cases this
        · rw [upd_ne c]
          exact s3 _ _ nb (s2 _ _ nb e)
      · obtain ⟨x, y, z, e⟩ := d3
        exact ⟨x, y, z, by rw [upd_ne (Ne.symm Fd)]; exact e⟩
      · rw [upd_same, List.map_append]
        rfl
      · rw [List.length_append, ll]
        rfl
      · rcases List.mem_append.mp hx with hx | hx
        · exact hl x hx
        · rw [List.mem_singleton.mp hx]
          omega
    · obtain ⟨l, s2, d2, f2, ll, hl⟩ := hP
      obtain ⟨a, b, c, rfl⟩ : ∃ a b c, l = [a, b, c] := by
        match l, ll with
        | [a, b, c], _ => exact ⟨a, b, c, rfl⟩
      have ha := hl a (by simp)
      have hb := hl b (by simp)
      have hc := hl c (by simp)
      refine ⟨F, _, rfl, SqL.of f2, rfl, _, _, rfl, _, _, rfl, _, _, rfl, rfl, ?_⟩
      have t2 : Tg Ps H2 := D0.tt.sx s2 D0.dd
      refine ⟨_, rfl, _, rfl, _, rfl, _, rfl, d, 1 + a, 1 + b, M, rfl, d2, by omega, by omega, by omega, M0, by omega, fun p1 A1 H3 s3 d3 hA lA bA => ?_⟩
      have t3 := t2.sx s3 d2
      refine ⟨_, rfl, _, rfl, _, rfl, _, rfl, d, 1 + b, 1 + c, M, rfl, d3, by omega, by omega, by omega, M0, by omega, fun p2 B1 H4 s4 d4 hB lB bB => ⟨_, _, rfl, ?_⟩⟩
      have t4 := t3.sx s4 d3
      have hA4 := hA.sx s4 d3
      have Mn : M.natAbs ≤ 10 ^ 12 := by omega
      have sA := sm_of lA (by omega) (by omega) (by omega) (by omega) bA Mn
      have sB := sm_of lB (by omega) (by omega) (by omega) (by omega) bB Mn
      have sP := prod_sm sA sB (fun r hr x hx => Nat.le_trans ((bA r hr).2 x hx) (by omega)) (fun r hr x hx => Nat.le_trans ((bB r hr).2 x hx) (by omega))
      have rkR := rank_right sA sB lB sP
      have rkL := rank_left sA sB lB sP
      have mc := sm_mulc sA sB
      refine ⟨_, rfl, _, rfl, p1, p2, A1, B1, 1 + b, 1 + c, rfl, hA4, hB, sA.tz, sB.tz, lB, by omega, mc, fun p3 H5 s5 hC => ?_⟩
      have d5 := d4.same s5
      have t5 := t4.same s5
      have hA5 := hA4.same s5
      have hB5 := hB.same s5
      have S05 : Sy d Ps H H5 := (((Sy.ofD s2).trans (Sy.ofD s3)).trans (Sy.ofD s4)).trans (Sy.of s5)
      clear s2 s3 s4 s5 hA hA4 hB t2 t3 t4 S1 f2 d2 d3 d4
      refine ⟨_, rfl, _, rfl, _, rfl, p1, p2, A1, B1, 1 + b, 1 + c, rfl, hA5, hB5, by omega, lB, by omega, by omega, by omega, sA.ln, sB.ln, mc, fun p4 H6 s6 hC2 => ?_⟩
      refine ne_tl2 (hC.same s6) hC2 ⟨_, rfl, iteF ?_⟩
      have d6 := d5.same s6
      have t6 := t5.same s6
      have hA6 := hA5.same s6
      have hB6 := hB5.same s6
      have hC6 := hC.same s6
      have S06 := S05.trans (Sy.of s6)
      clear s6 hA5 hB5 hC hC2 t5 d5 S05
      have eP := eokP sP.ln sP.bd sP.num
      have eA := eokP sA.ln sA.bd sA.num
      have eB := eokP sB.ln sB.bd sB.num
      refine ⟨_, rfl, p3, _, 1 + c, rfl, hC6, sP.tz, eP, t6, fun H7 s7 t7 => ⟨_, rfl, p1, A1, 1 + b, rfl, hA6.sts s7 t6, sA.tz, eA, t7, fun H8 s8 t8 => ⟨_, rfl, p2, B1, 1 + c, rfl, (hB6.sts s7 t6).sts s8 t7, sB.tz, eB, t8, fun H9 s9 t9 => ?_⟩⟩⟩
      have s69 := (s7.trans s8).trans s9
      have d9 : Dc H9 d := s69.dc t6 d6
      have hA9 := hA6.sts s69 t6
      have hB9 := hB6.sts s69 t6
      have hC9 := hC6.sts s69 t6
      have S09 := S06.trans (Sy.ofP s69)
      clear s69 s7 s8 s9 hA6 hB6 hC6 t6 t7 t8 d6 S06
      generalize (ech less (mm A1 (turn B1 (1 + c))) (1 + c)).length = rP at rkR rkL ⊢
      generalize (ech less A1 (1 + b)).length = rA at rkL ⊢
      generalize (ech less B1 (1 + c)).length = rB at rkR ⊢
      refine ⟨_, _, rfl, _, _, rfl, rfl, _, rfl, ?_⟩
      rw [decide_eq_false (show ¬ ((if (rB : Int) < (rA : Int) then (rB : Int) else (rA : Int)) < (rP : Int)) by split <;> omega)]
      refine iteF ?_
      dsimp only [tNext]
      refine ⟨_, rfl, p1, A1, 1 + b, rfl, hA9, rtok sA, t9, fun H10 s10 t10 => ?_⟩
      refine ⟨true, rfl, iteT ⟨_, rfl, p2, B1, 1 + c, rfl, hB9.sts s10 t9, rtok sB, t10, fun H11 s11 t11 => ⟨true, rfl, iteT ⟨_, rfl, p3, _, 1 + c, rfl, (hC9.sts s10 t9).sts s11 t10, rtok sP, t11, fun H12 s12 t12 => ?_⟩⟩⟩⟩
      have s912 := (s10.trans s11).trans s12
      exact q H12 (S09.trans (Sy.ofP s912)) ⟨s912.dc t9 d9, t12⟩
theorem ok_law (T : Facts K mg) (TB_first_of : TabB base mg T.c_first_of T.P_first_of) : FnOk P w K mg base CX0 8 T.f_law T.fd_law ["_law_script"] (spLawT K [T.P_first_of]) := by
  have hP : T.P_first_of ∈ [T.P_first_of] := List.mem_singleton.mpr rfl
  have G_law_dice := ok_law_dice (P := P) (w := w) (base := base) T
  have G_law_right := ok_law_right (P := P) (w := w) (base := base) T TB_first_of hP
  have G_rank := ok_rank (P := P) (w := w) (base := base) T TB_first_of hP
  have G_kernel := ok_kernel (P := P) (w := w) (base := base) T TB_first_of hP
  refine T.F_law.ok sc_law (fun vs H Q E h => ?_) (fun cdv A outer s H vs Q E hr h => ?_)
  · obtain ⟨a, ns, rfl, _⟩ := h
    rfl
  · obtain ⟨a, ns, rfl, ha, hn, hG, q⟩ := h
    refine ⟨_, (PSs.nox (pss_cons (ps_for PassesOwn.never (by rfl) (pi_range1 (by rfl) T.z_range (pa_cons (pe_callB (call_max2 (by rfl)) (by rfl) T.z_max (by decide +kernel) (pa_cons pe_int (pa_cons (pe_callB (call_min2 (by rfl)) (by rfl) T.z_min (by decide +kernel) (pa_cons pe_int (pa_cons (pe_callB call_len_seq (by rfl) T.z_len (by decide +kernel) (pa_cons (pv 0) pa_nil)) pa_nil))) pa_nil))) pa_nil)) (pg_name (i := 1) sc_law.nd rfl (.inl rfl))
      (pss_one (ps_if (pt_not (pt_val (pe_call G_law_right hr (by rfl) T.g_law_right T.F_law_right.kp T.b_law_right .nil pass0 (pa_cons (pe_call G_law_dice (hr.mono (by decide)) (by rfl) T.g_law_dice T.F_law_dice.kp T.b_law_dice .nil pass0 (pa_cons (pv 0) (pa_cons (pv 1) pa_nil))) pa_nil))))
        (pss_one (ps_ret pe_bl))
        pss_nil)))
    (pss_cons (ps_set (i := 2) sc_law.nd rfl (.inl rfl) (pe_tup (pa_cons (pe_tup (pa_cons pe_int (pa_cons pe_int (pa_cons pe_int pa_nil)))) (pa_cons (pe_tup (pa_cons pe_int (pa_cons pe_int (pa_cons pe_int pa_nil)))) (pa_cons (pe_tup (pa_cons pe_int (pa_cons pe_int (pa_cons pe_int pa_nil)))) pa_nil)))))
    (pss_cons (ps_set (i := 3) sc_law.nd rfl (.inl rfl) (pe_lst (pa_cons (pe_call G_rank (hr.mono (by decide)) (by rfl) T.g_rank T.F_rank.kp T.b_rank .nil pass0 (pa_cons (pv 2) pa_nil)) (pa_cons (pe_call G_kernel (hr.mono (by decide)) (by rfl) T.g_kernel T.F_kernel.kp T.b_kernel .nil pass0 (pa_cons (pv 2) pa_nil)) (pa_cons (pe_call G_kernel (hr.mono (by decide)) (by rfl) T.g_kernel T.F_kernel.kp T.b_kernel .nil pass0 (pa_cons (pe_tup (pa_cons (pe_tup (pa_cons pe_int (pa_cons pe_int (pa_cons pe_int pa_nil)))) pa_nil)) pa_nil)) (pa_cons (pe_call G_kernel (hr.mono (by decide)) (by rfl) T.g_kernel T.F_kernel.kp T.b_kernel .nil pass0 (pa_cons (pe_tup (pa_cons (pe_tup (pa_cons pe_int (pa_cons pe_int pa_nil))) (pa_cons (pe_tup (pa_cons pe_int (pa_cons pe_int pa_nil))) pa_nil))) pa_nil)) (pa_cons (pe_call G_kernel (hr.mono (by decide)) (by rfl) T.g_kernel T.F_kernel.kp T.b_kernel .nil pass0 (pa_cons (pe_tup (pa_cons (pe_tup (pa_cons pe_int (pa_cons pe_int pa_nil))) pa_nil)) pa_nil)) pa_nil)))))))
    (pss_one (ps_ret (pe_cmpR (op_eqD (hu64 hr)) (pv 3) (pe_lst (pa_cons pe_int (pa_cons (pe_tup (pa_cons (pe_tup (pa_cons pe_int (pa_cons (pe_un un_neg pe_int) (pa_cons pe_int pa_nil)))) pa_nil)) (pa_cons (pe_tup (pa_cons (pe_tup (pa_cons pe_int (pa_cons (pe_un un_neg pe_int) (pa_cons pe_int pa_nil)))) (pa_cons (pe_tup (pa_cons pe_int (pa_cons pe_int (pa_cons pe_int pa_nil)))) pa_nil))) (pa_cons (pe_tup pa_nil) (pa_cons (pe_tup (pa_cons (pe_tup (pa_cons pe_int (pa_cons pe_int pa_nil))) (pa_cons (pe_tup (pa_cons pe_int (pa_cons pe_int pa_nil))) pa_nil))) pa_nil)))))) (nomark _)))))))), ?_⟩
    refine ⟨_, rfl, a, _, rfl, .inl ha, 4, _, rfl, 1, _, rfl, ?_⟩
    rw [List.length_map]
    obtain ⟨n, hn1, hn0⟩ : ∃ n : Int, (if (if ((ns.length : Nat) : Int) < 4 then ((ns.length : Nat) : Int) else 4) > 1 then (if ((ns.length : Nat) : Int) < 4 then ((ns.length : Nat) : Int) else 4) else 1) = n ∧ 0 ≤ n ∧ n ≤ 4 := ⟨_, rfl, by split <;> split <;> omega, by split <;> split <;> omega⟩
    rw [hn1]
    generalize [T.P_first_of] = Ps at *
    refine ⟨_, rfl, by omega, by omega, for_range (n := n.toNat) (fun i σ H' => ∃ y1, σ = [some (.ref a), y1, none, none] ∧ SqL K H' a (ns.map V.int) ∧ Tg Ps H') ⟨none, rfl, ha, hG⟩ (fun i σ H1 hi hP => ?_) (fun σ H1 hP => ?_)⟩
    · obtain ⟨y1, rfl, h1, p1⟩ := hP
      refine ⟨_, rfl, _, rfl, a, ns, i, ?_, h1, fun d x y z nd => ?_⟩
      · show [V.ref a, V.int (0 + (i : Int))] ++ [] = _
        rw [Int.zero_add]
        rfl
      have D1 : Dp d Ps (upd H1 d (dice x y z)) := ⟨⟨x, y, z, upd_same⟩, p1.same (same_upd0 nd)⟩
      exact ⟨d, rfl, D1, fun H2 s2 D2 => ⟨true, rfl, iteF ⟨_, rfl, script_Sy s2 nd p1 h1, D2.tt⟩⟩⟩
    · obtain ⟨y1, rfl, h1, t1⟩ := hP
      have z0 : 0 ≤ sizeLine := Nat.zero_le _
      have z1 : 1 ≤ sizeLine := by decide
      have z2 : 2 ≤ sizeLine := by decide
      have z3 : 3 ≤ sizeLine := by decide
      have z5 : 5 ≤ sizeLine := by decide
      refine ⟨z3, fun a1 m1 => gen_upd H1 a1 (tp [1, 2, 3]) m1 fun H2 s2 k2 => ⟨z3, fun a2 m2 => gen_upd H2 a2 (tp [4, 5, 6]) m2 fun H3 s3 k3 => ⟨z3, fun a3 m3 => gen_upd H3 a3 (tp [7, 8, 9]) m3 fun H4 s4 k4 => ⟨z3, fun tA mA => gen_upd H4 tA (.tup [.ref a1, .ref a2, .ref a3]) mA fun H5 s5 k5 => ?_⟩⟩⟩⟩
      have hA : Tl2 H5 tA [[1, 2, 3], [4, 5, 6], [7, 8, 9]] := tl2_3 k5 (s5 _ _ (s4 _ _ (s3 _ _ k2))) (s5 _ _ (s4 _ _ k3)) (s5 _ _ k4)
      have t5 := (((t1.same s2).same s3).same s4).same s5
      clear s2 s3 s4 s5 k2 k3 k4 k5 t1
      refine ⟨_, rfl, tA, _, 3, rfl, hA, cA.tz, (rtok cA).kp.e, t5, fun H6 s6 t6 => ?_⟩
      have hA6 := hA.sts s6 t5
      clear s6 hA t5
      rw [rA]
      refine ⟨_, rfl, tA, _, 3, rfl, hA6, (rtok cA).kp, t6, fun pA H7 s7 t7 k7 => ?_⟩
      rw [kA] at k7
      clear hA6 s7 t6
      refine ⟨z3, fun b1 n1 => gen_upd H7 b1 (tp [2, 4, 0]) n1 fun H8 s8 g8 => ⟨z1, fun tB nB => gen_upd H8 tB (.tup [.ref b1]) nB fun H9 s9 g9 => ⟨tB, _, 3, rfl, tl2_1 g9 (s9 _ _ g8), (rtok cB).kp, (t7.same s8).same s9, fun pB H10 s10 t10 k10 => ?_⟩⟩⟩
      rw [kB] at k10
      have a10 := ((k7.same s8).same s9).sts s10 ((t7.same s8).same s9)
      clear s8 s9 s10 g8 g9 k7 t7
      refine ⟨z2, fun c1 n2 => gen_upd H10 c1 (tp [1, 0]) n2 fun H11 s11 g11 => ⟨z2, fun c2 n3 => gen_upd H11 c2 (tp [0, 1]) n3 fun H12 s12 g12 => ⟨z2, fun tC nC => gen_upd H12 tC (.tup [.ref c1, .ref c2]) nC fun H13 s13 g13 => ⟨tC, _, 2, rfl, tl2_2 g13 (s13 _ _ (s12 _ _ g11)) (s13 _ _ g12), (rtok cC).kp, ((t10.same s11).same s12).same s13, fun pC H14 s14 t14 k14 => ?_⟩⟩⟩⟩
      rw [kC] at k14
      have a14 := (((a10.same s11).same s12).same s13).sts s14 (((t10.same s11).same s12).same s13)
      have b14 := (((k10.same s11).same s12).same s13).sts s14 (((t10.same s11).same s12).same s13)
      clear s11 s12 s13 s14 g11 g12 g13 a10 k10 t10
      refine ⟨z2, fun d1 n4 => gen_upd H14 d1 (tp [0, 0]) n4 fun H15 s15 g15 => ⟨z1, fun tD nD => gen_upd H15 tD (.tup [.ref d1]) nD fun H16 s16 g16 => ⟨tD, _, 2, rfl, tl2_1 g16 (s16 _ _ g15), (rtok cD).kp, (t14.same s15).same s16, fun pD H17 s17 t17 k17 => ?_⟩⟩⟩
      rw [kD] at k17
      have a17 := ((a14.same s15).same s16).sts s17 ((t14.same s15).same s16)
      have b17 := ((b14.same s15).same s16).sts s17 ((t14.same s15).same s16)
      have c17 := ((k14.same s15).same s16).sts s17 ((t14.same s15).same s16)
      clear s15 s16 s17 g15 g16 a14 b14 k14 t14 t17
      refine ⟨z5, fun L nL => gen_upd H17 L (.lst [.int 2, .ref pA, .ref pB, .ref pC, .ref pD]) nL fun H18 s18 l18 => ?_⟩
      have a18 := a17.same s18
      have b18 := b17.same s18
      have c18 := c17.same s18
      have d18 := k17.same s18
      clear s18 a17 b17 c17 k17
      refine ⟨_, rfl, ?_⟩
      refine ⟨_, rfl, z3, fun e1 q1 => gen_upd H18 e1 (tp [1, -2, 1]) q1 fun H19 s19 g19 => ⟨z1, fun uA q2 => gen_upd H19 uA (.tup [.ref e1]) q2 fun H20 s20 g20 => ?_⟩⟩
      have a20 : Tl2 H20 uA [[1, -2, 1]] := tl2_1 g20 (s20 _ _ g19)
      have s1820 : Same H18 H20 := fun b o e => s20 _ _ (s19 _ _ e)
      clear s19 s20 g19 g20
      refine ⟨_, rfl, z3, fun e2 q3 => gen_upd H20 e2 (tp [2, -1, 0]) q3 fun H21 s21 g21 => ⟨z3, fun e3 q4 => gen_upd H21 e3 (tp [0, 0, 1]) q4 fun H22 s22 g22 => ⟨z2, fun uB q5 => gen_upd H22 uB (.tup [.ref e2, .ref e3]) q5 fun H23 s23 g23 => ?_⟩⟩⟩
      have b23 : Tl2 H23 uB [[2, -1, 0], [0, 0, 1]] := tl2_2 g23 (s23 _ _ (s22 _ _ g21)) (s23 _ _ g22)
      have s2023 : Same H20 H23 := fun b o e => s23 _ _ (s22 _ _ (s21 _ _ e))
      clear s21 s22 s23 g21 g22 g23
      refine ⟨z0, fun uC q6 => gen_upd H23 uC (.tup []) q6 fun H24 s24 g24 => ?_⟩
      refine ⟨z2, fun e4 q7 => gen_upd H24 e4 (tp [1, 0]) q7 fun H25 s25 g25 => ⟨z2, fun e5 q8 => gen_upd H25 e5 (tp [0, 1]) q8 fun H26 s26 g26 => ⟨z2, fun uD q9 => gen_upd H26 uD (.tup [.ref e4, .ref e5]) q9 fun H27 s27 g27 => ?_⟩⟩⟩
      have d27 : Tl2 H27 uD [[1, 0], [0, 1]] := tl2_2 g27 (s27 _ _ (s26 _ _ g25)) (s27 _ _ g26)
      have s2427 : Same H24 H27 := fun b o e => s27 _ _ (s26 _ _ (s25 _ _ e))
      refine ⟨z5, fun L2 nL2 => gen_upd H27 L2 (.lst [.int 2, .ref uA, .ref uB, .ref uC, .ref uD]) nL2 fun H28 s28 l28 => ?_⟩
      have s2328 : Same H23 H28 := fun b o e => s28 _ _ (s2427 _ _ (s24 _ _ e))
      have s2028 : Same H20 H28 := fun b o e => s2328 _ _ (s2023 _ _ e)
      have s1828 : Same H18 H28 := fun b o e => s2028 _ _ (s1820 _ _ e)
      exact eq_sameD (d := .list [.int 2, .tuple (TD [[1, -2, 1]]), .tuple (TD [[2, -1, 0], [0, 0, 1]]), .tuple (TD []), .tuple (TD [[1, 0], [0, 1]])])
        (.lst (SqL.of (s1828 _ _ l18)) (.cons (.int 2) (.cons (dp_tl2 (a18.same s1828)) (.cons (dp_tl2 (b18.same s1828)) (.cons (dp_tl2 (c18.same s1828)) (.cons (dp_tl2 (d18.same s1828)) .nil))))))
        (.lst (SqL.of l28) (.cons (.int 2) (.cons (dp_tl2 (a20.same s2028)) (.cons (dp_tl2 (b23.same s2328)) (.cons (dp_tl2 (tl2_0 (s28 _ _ (s2427 _ _ g24)))) (.cons (dp_tl2 (d27.same s28)) .nil))))))
        (by decide) (by decide) (q _)
end
end K01

set_option Elab.async false
set_option linter.all false
set_option maxRecDepth 100000
set_option maxHeartbeats 0
namespace K01
open PySem PySem.Spec PyProof.Rows L2
theorem facts {l : PySem.W.OpenLaw} {w : World} {K : PySem.W.Frag} {h : Heap} {mg : Str → Option Value} {f : Addr} (X : K.In h) (G : h.Ns mainGlobals mg) (hfa : mg ("law" : Str) = some (.ref f)) (c : HookT.SaysGT faL fnL tfL exL h K) :
    LamX.LawAtS l w K CX0 8 63 "_law_script" mg f h := by
  obtain ⟨T⟩ := facts_of X G c.g
  have e := hfa.symm.trans T.g_law
  cases e
  have b := FunD.bindsA (ps := ["_law_script"]) T.F_law fun _ _ _ _ _ _ us hl => match us, hl with | [_], _ => rfl
  have key : ∀ p ∈ ([(T.c_first_of, T.P_first_of)] : List (Addr × Addr)), ∃ q ∈ tfL, p = HookT.cTA K q := fun p hp => by
    simp only [List.mem_cons, List.not_mem_nil, or_false] at hp
    rcases hp with rfl
    · exact ⟨(HookG.At.glo "first_of"), by unfold tfL; simp, T.tab_first_of⟩
  refine ⟨T.fd_law, [(T.c_first_of, T.P_first_of)], spLawT K [T.P_first_of], fun p hp => ?_, fun p hp => ?_, fun p hp => ?_, fun s v => b s [v] rfl, fun H a ns hl _ hH hS => ⟨a, ns, rfl, hS, hl, (fun P hP => (List.mem_singleton.mp hP) ▸ HookT.tabG0 (hH (T.c_first_of, T.P_first_of) (by simp))), fun _ => rfl⟩, fun base _ _ TB => ok_law T (have t := TB (T.c_first_of, T.P_first_of) (by simp); ⟨t.code, t.bm, t.gP⟩)⟩
  · obtain ⟨q, hq, rfl⟩ := key p hp
    exact c.empty q hq
  · obtain ⟨q, hq, rfl⟩ := key p hp
    exact c.out q hq
  · obtain ⟨q, hq, rfl⟩ := key p hp
    exact PySem.W.codeHd_of_K X (c.hd q hq)
end K01
open PySem PySem.W PySem.Calls PyProof.Rows
theorem PySem.Challenge.cw_sourceforms_k01_whole_echelons_and_kerne_holds : PySem.Challenge.rw_sourceforms_k01_whole_echelons_and_kerne.Holds := by
  w_on; o_law
  refine HandSHeadRun.head_imp (r := OpenLaw.row PySem.Challenge.rw_sourceforms_k01_whole_echelons_and_kerne) (q := view (OpenLaw.row PySem.Challenge.rw_sourceforms_k01_whole_echelons_and_kerne).prog [0, 44]) (H := K01.hk) (ob := K01.ob) (M := 9000) (loose := K01.loose) (d := HandSHeadRun.topDef (OpenLaw.row PySem.Challenge.rw_sourceforms_k01_whole_echelons_and_kerne).prog 44) (kwd := []) K01.ob_eq K01.run (by kernel_rfl) (by kernel_rfl) (by kernel_rfl) (by rfl) (by first | assumption | decide +kernel) (by decide +kernel) ⟨rfl, rfl, rfl, rfl, rfl, by decide +kernel⟩ ?hw ?hc
  case hw => w_witness2
  case hc =>
    refine LamX.walk_ofTsE (l := PySem.Challenge.rw_sourceforms_k01_whole_echelons_and_kerne) (n := 63) (k := 8) (x := "_law_script") (CX := fun _ => L2.CX0) rfl (by decide) (by kernel_rfl) ⟨rfl, by decide, by decide⟩ ?F (fun _ _ _ _ _ z => z)
    intro w mg fa h Y G hmg0
    obtain ⟨K, KX, c⟩ := Y
    have hmg : mg ("law" : PySem.Str) = some (.ref fa) := by
      have e : (HandSHeadRun.topDef (OpenLaw.row PySem.Challenge.rw_sourceforms_k01_whole_echelons_and_kerne).prog 44).name = ("law" : PySem.Str) := by kernel_rfl
      rw [← e]
      exact hmg0
    exact ⟨K, KX, K01.facts KX G hmg c⟩
