import PyProof.Rows.All
import Wide.All
import OpenK.AllK
import Wide.FinOn
import KE.KTupSum
import HandS.ForMost
import HandS.Wide
import HandS.Style
import HandS.Gcd
import KE.KMathG
import Flt.RightSqrt
import HandS.SlotsOwn
import HandS.IsInst
import KE.KOpsOwn
import KE.KCallOwn
import KE.KOwnIter
import OpenK.KMeth
import OpenK.KOps
import PyProof.InstNe
import HandS.OwnIter
import HandS.IterNext
import HandS.Defaults
import HandS.HeadHook2
import HandS.HeadNt
import PyProof.EqAt
import PyProof.EqKinds
import PyProof.TupleCall
import KE.KExcSuper
import KE.KSuper
import HandS.ForExc
import HandS.Dict
import HandS.Iter
import KE.GoesMore
import HandS.Codes
import HandS.Words
import HandS.Slots
import HandS.ClsMeth
import PyProof.ListIndex
import HandS.List
import HandS.Conv
import HandS.Star
import HandS.TupAny
import HandS.Zip
import HandS.Evl
import HandS.WordsExc
import HandS.Head0
import HandS.Head1
import HandS.Head2
import HandS.Head3
import HandS.HeadEnd
import HandS.HeadHook1
import HandS.HeadHook3
import HandS.HeadHook4
import HandS.FStr
import KE.KEqSeq
import HandS.TupMul
import PySem.Challenge.RW_sourceforms_k40_whole_told_members

set_option Elab.async false
set_option linter.all false
set_option maxRecDepth 100000
set_option maxHeartbeats 4000000
/-! rules of mine: a tuple turned round by a slice, the sum of a tuple -/
namespace MyR
open PySem PySem.Spec PyProof.Rows L2 HT
section
variable {prog : Program} {w : World} {A : Around} {E : Value → Shared → Prop} {s : Shared}
end
section
variable {X : Cx}
/-- // by any int other than 0 -/
def CDivZ (_ j : Int) : Prop := j ≠ 0 ∧ j.natAbs.log2 < 9000
theorem op_fdivZ : OpR X (binaryOp .FloorDiv) (rI CDivZ fun i j => .int (i.fdiv j)) := opI fun i j _ _ _ _ _ hc q =>
  floordiv_int hc.1 q (.inl (PyProof.noPylong_of_log2 hc.2))
end
end MyR

set_option Elab.async false
set_option linter.all false
set_option maxRecDepth 100000
set_option maxHeartbeats 2000000
/-! rules for instances with slots: own +, -, *, unary -, ==, !=, len, str -/
namespace OwnR
open PySem PySem.Spec PyProof.Rows L2 SlX
section
variable {X : Cx} {CX : CXT} {C g : Addr} {n : Nat} {sp : Sp} {E : XK}
/-- the right operand of a comparison: a value of a plain type, or an instance -/
inductive RT (X : Cx) (H : Hp) : V → Value → Prop where
  | plain {x : V} {T : String} (t : TyB X.K H x T) : RT X H x (.type T)
  | inst {b C' dy : Addr} {ws : List (Option V)} (h : Slt H b C' dy ws) : RT X H (.ref b) (.ref C')
theorem rt_looks {pins : List (Addr × Obj)} {σ : L2.St} {H : Hp} {s : Shared} {y : V} {u tb : Value} (I : Inv X pins σ H s) (ry : RelV y u) (t : RT X H y tb) : PySem.W.Looks (model X.prog X.w) s.heap (typeOf u) tb := by
  cases t with
  | plain t =>
    have e := t.is I ry
    cases u with
    | ref b =>
      obtain ⟨o, h1, h2⟩ := (show ∃ o, s.heap.get? b = some o ∧ o.cls = .type _ from e)
      rw [← h2]
      exact (PySem.W.Looks.ld (part := none) h1).andThen .now
    | _ => exact PySem.W.Looks.of_pure e
  | inst h =>
    cases (show u = Value.ref _ from ry)
    obtain ⟨sl, od, _, J, _⟩ := slt_inst I h
    exact J.type
theorem objNe_entry {prog : Program} {w : World} {A : Around} {E : Value → Shared → Prop} {s : Shared} {K : PySem.W.Frag} {x C f : Addr} {ox : Obj} {od : Option Obj} {b : Value} (hu : A.units < cLine) (X : K.In s.heap) (I : PySem.W.InstAt s.heap x ox C od)
    (hs : PySem.W.findIn K (.ref C) "__eq__" = some (some (.ref f))) (hf : PySem.W.isFn K (.ref f) = true) {Q : Fin → Shared → Prop}
    (hcall : wpAny (model prog w) A (call (.ref f) [.ref x, b]) (fun v s' => ∃ r, v = .bool r ∧ Q (.done (.ret (.bool (!r)))) s') E s) : wpAny (model prog w) A (Builtin.«object.__ne__» ⟨[.ref x, b], []⟩) Q E s := by
  unfold Builtin.«object.__ne__»
  repeat (first
    | with_reducible refine wpAny_cRoomFor hu ?_
    | (refine wpAny_bind (m := callSpecialIfBound? (.ref x) (Str.ofString "__eq__") [b])
        (PySem.W.ifBound_K X I hs hf (wpAny_mono hcall (fun r s' hr => by
          obtain ⟨b, rfl, hq⟩ := hr
          repeat (first | exact hq | exact wpAny_pure hq | exact wpAny_truthy_bool hq | (refine wpAny_bind (m := truthy (.bool _)) (wpAny_truthy_bool ?_)) | wp_step)) fun _ _ e => e)))
    | wp_step)
theorem ifBound_objNe {M : Model} {A : Around} {E : Value → Shared → Prop} {s : Shared} {K : PySem.W.Frag} {x C : Addr} {ox : Obj} {od : Option Obj} {args : List Value} {Q : Option Value → Shared → Prop} (X : K.In s.heap) (I : PySem.W.InstAt s.heap x ox C od) (hs : PySem.W.findIn K (.ref C) "__ne__" = some (some (.builtin "object.__ne__")))
    (h : wpAny M A (call (.builtin "object.__ne__") (.ref x :: args)) (fun v => Q (some v)) E s) : wpAny M A (callSpecialIfBound? (.ref x) "__ne__" args) Q E s := by
  simp only [callSpecialIfBound?, bindSpecialIfBound?]
  refine wpAny_holding (wpAny_bind (wpAny_bind (wpAny_bind (I.type.here ((PySem.W.looks_findIn X hs).here ?_)))))
  refine wpAny_bind (wpAny_askSetting (wpAny_ite ?_))
  have fin : wpAny M A (call (.builtin "object.__ne__") ([.ref x] ++ args) >>= fun v => pure (some v)) Q E s := wpAny_bind (wpAny_mono h (fun v s' h' => wpAny_pure h') fun _ _ h' => h')
  split
  · exact wpAny_bind (wpAny_of_eq (F.cmp_object.ne.bind _) (wpAny_pure (by exact fin)))
  · exact wpAny_tryCatch (wpAny_bind (wpAny_of_eq (F.cmp_object.ne.bind _) (wpAny_pure (by exact fin))))
theorem rc_ne {prog : Program} {w : World} {A : Around} {E : Value → Shared → Prop} {s : Shared} {K : PySem.W.Frag} {x C f : Addr} {ox : Obj} {od : Option Obj} {b tb : Value} {Q : Value → Shared → Prop} (hu : A.units + 1 < cLine) (X : K.In s.heap) (I : PySem.W.InstAt s.heap x ox C od)
    (hb : PySem.W.Looks (model prog w) s.heap (typeOf b) tb) (hn : PySem.W.notFirst K C tb = true) (hm : PySem.W.mroIn K C (.type "object") = some true) (hne : PySem.W.findIn K (.ref C) "__ne__" = some (some (.builtin "object.__ne__")))
    (hs : PySem.W.findIn K (.ref C) "__eq__" = some (some (.ref f))) (hf : PySem.W.isFn K (.ref f) = true)
    (h : wpAny (model prog w) A.in1 (call (.ref f) [.ref x, b]) (fun v s' => ∃ r, v = .bool r ∧ Q (.bool (!r)) s') E s) : wpAny (model prog w) A (richCompare .NotEq (.ref x) b) Q E s := by
  have one : wpAny (model prog w) A (tryCompare (.ref x) "__ne__" b) (fun r s' => ∃ v, r = some v ∧ Q v s') E s := by
    unfold tryCompare
    refine wpAny_bind (ifBound_objNe X I hne (wpAny_call (codeAny_call_builtin F.cmp_object.ne.plain F.cmpEntry_ne (PySem.W.check_slot F.cmpKind_ne F.cmpSplit_ne (I.type.andThen (PySem.W.looks_mroIn X hm)) (F.cmpArgs_ne _ _) (objNe_entry (A := A.in1) hu X I hs hf (wpAny_mono h (fun v s' hv => ?_) fun _ _ e => e))))))
    obtain ⟨r, rfl, hq⟩ := hv
    exact ⟨r, rfl, wpAny_pure ⟨_, rfl, hq⟩⟩
  unfold richCompare
  simp only [oneThing_ref]
  refine wpAny_holding (wpAny_bind (wpAny_cRoomFor (by omega) ?_))
  refine wpAny_bind (I.type.here (wpAny_bind (hb.here ?_)))
  split
  · rename_i q
    have e : PySem.W.subIn K tb (.ref C) = some false := by
      rcases Bool.or_eq_true_iff.mp hn with e | e
      · rw [beq_iff_eq.mp e] at q; simp at q
      · exact beq_iff_eq.mp e
    refine wpAny_bind ((PySem.W.looks_subIn X e).here ?_)
    simp only [Bool.false_eq_true, if_false]
    refine wpAny_bind (m := tryCompare (.ref x) _ b) (wpAny_mono one (fun r s' z => ?_) fun _ _ e => e)
    obtain ⟨v, rfl, hq⟩ := z
    exact wpAny_pure hq
  · refine wpAny_bind (wpAny_pure ?_)
    simp only [Bool.false_eq_true, if_false]
    refine wpAny_bind (m := tryCompare (.ref x) _ b) (wpAny_mono one (fun r s' z => ?_) fun _ _ e => e)
    obtain ⟨v, rfl, hq⟩ := z
    exact wpAny_pure hq
/-- x != y, x an instance of the class at C with its own __eq__ at g and no __ne__ -/
def rNeO (X : Cx) (C : Addr) (sp : Sp) (E : XK) : R2 := fun x y H Q => ∃ a dx vs tb, x = .ref a ∧ Slt H a C dx vs ∧ RT X H y tb ∧ PySem.W.notFirst X.K C tb = true ∧ sp [x, y] H (fun z H' => ∃ r, z = .bl r ∧ Q (.bl (!r)) H') E
theorem op_neO (hm : PySem.W.mroIn X.K C (.type "object") = some true) (hne : PySem.W.findIn X.K (.ref C) "__ne__" = some (some (.builtin "object.__ne__"))) (hs : PySem.W.findIn X.K (.ref C) "__eq__" = some (some (.ref g))) (hf : PySem.W.isFn X.K (.ref g) = true) (F : FnR X.prog X.w X.K X.mg X.base CX n g sp)
    (hr : Room (n + 1) X.A) (hx : Passes CX X E) : OpR X (compareOp .NotEq) (rNeO X C sp E) := by
  intro pins s σ H x y v u Q I rx ry h
  obtain ⟨a, dx, vs, tb, rfl, ha, ht, hn, q⟩ := h
  cases (show v = Value.ref a from rx)
  obtain ⟨sl, od, _, J, _⟩ := slt_inst I ha
  show wpAny _ _ (richCompare .NotEq (.ref a) u) _ _ _
  refine rc_ne (Nat.lt_of_le_of_lt (Nat.le_refl _) (Room.in1 hr).units0) I.kIn J (rt_looks I ry ht) hn hm hne hs hf ?_
  refine wpAny_mono (wpAny_call (run_at (us := [.ref a, u]) (ws := [.ref a, y]) F (Room.in1 hr) I.env0.in1 hx I (.cons rfl (.cons ry .nil)) q)) (fun w s' z => ?_) fun _ _ x => x
  obtain ⟨z', H', I', rz, r, ez, qz⟩ := z
  subst ez
  cases (show w = Value.bool r from rz)
  exact ⟨r, rfl, .bl (!r), H', I', rfl, qz⟩
end
end OwnR

set_option Elab.async false
set_option linter.all false
set_option maxRecDepth 100000
set_option maxHeartbeats 2000000
/-! list(x) of an instance with own __iter__ (an iterator over a tuple) and own __len__; iter of a tuple -/
namespace OwnR
open PySem PySem.Spec PyProof.Rows L2 SlX
/-- at it an iterator over the tuple at t, the next place is i -/
def ItT (t it : Addr) (i : Nat) : HO := .ext fun h => IsTupIter h it t i
section
variable {X : Cx} {CX : CXT} {pins : List (Addr × Obj)} {σ : L2.St} {H : Hp} {s : Shared} {C g gl t it q : Addr} {n i : Nat} {sp spl : Sp} {E : XK}
/-- what stands while the iterator's items are taken -/
structure Tk (K : PySem.W.Frag) (H0 H : Hp) (t it q : Addr) (ys : List V) (i : Nat) : Prop where
  at_ : H it = some (ItT t it i)
  tu : SqT K H t ys
  li : H q = some (.lst (ys.take i))
  st : ∀ b o, b ≠ it → b ≠ q → H0 b = some o → H b = some o
theorem slt_upd {a dx q : Addr} {vs : List (Option V)} {o : HO} (h : Slt H a C dx vs) (n : H q = none) : Slt (upd H q o) a C dx vs := by
  rcases h with ⟨h1, h2⟩ | ⟨h1, h2⟩
  · exact .inl ⟨by rw [upd_ne (ne_of_none h1 n)]; exact h1, h2⟩
  · exact .inr ⟨by rw [upd_ne (ne_of_none h1 n)]; exact h1, by rw [upd_ne (ne_of_none h2 n)]; exact h2⟩
end
end OwnR

set_option Elab.async false
set_option linter.all false
set_option maxRecDepth 100000
set_option maxHeartbeats 2000000
/-! a Hook that tells of defs found anywhere (a global, a class's method, a property's getter), and of classes with slots -/
namespace HookG
open PySem PySem.Spec PyProof.Rows L2 He
/-- the property f of the class at C -/
def prA (K : PySem.W.Frag) (C : Addr) (f : Str) : Addr := match PySem.W.recIn K (ma K C f) "property" with
  | some (.ref g :: _) => g
  | _ => 0
/-- where a def stands: a global; a method; a property's getter; a classmethod -/
inductive At where
  | glo (x : Str)
  | met (C m : Str)
  | prp (C f : Str)
  | cms (C m : Str)
def At.adr (K : PySem.W.Frag) : At → Addr
  | .glo x => ga K x
  | .met C m => ma K (ga K C) m
  | .prp C f => prA K (ga K C) f
  | .cms C m => He5.wf K (ga K C) "classmethod" m
structure GD where
  at_ : At
  name : Str
  qual : Str
  params : Arguments
  body : List Stmt
  scope : Scope
def fnA (K : PySem.W.Frag) (a : Addr) : FnW := match K.lookup a with
  | some ⟨_, _, .func fd, _⟩ => some (fd.name, fd.qualname, fd.params, fd.body, fd.scope, fd.globals, fd.closure, fd.builtins)
  | _ => none
def GD.val (d : GD) : FnW := some (d.name, d.qual, d.params, .stmts d.body, d.scope, mainGlobals, [], builtinsNs)
def GD.ok (K : PySem.W.Frag) (d : GD) : Bool := PySem.W.keepIn K (.ref (d.at_.adr K)) && (match K.lookup (d.at_.adr K) with
  | some ⟨_, _, .func fd, _⟩ => PySem.W.codeIn K fd.code d.qual && (dflB K fd.defaults [] && kwdB K fd.kwdefaults [])
  | _ => false)
theorem GD.funD {K : PySem.W.Frag} {d : GD} (e : fnA K (d.at_.adr K) = d.val) (c : d.ok K = true) : ∃ fd, FunD K d.name d.qual d.params d.body d.scope [] [] (d.at_.adr K) fd := by
  obtain ⟨kp, c2⟩ := ba c
  unfold fnA at e
  cases q : K.lookup (d.at_.adr K) with
  | none => rw [q] at c2; cases c2
  | some o =>
    obtain ⟨oc, od, dt, osl⟩ := o
    rw [q] at c2 e
    cases dt with
    | func fd =>
      obtain ⟨n1, n2, n3, n4, n5, n6, n7, n8, n9, n10, n11, n12, n13, n14, n15⟩ := fd
      have e2 : (some (n1, n2, n3, n4, n5, n6, n7, n15) : FnW) = some (d.name, d.qual, d.params, .stmts d.body, d.scope, mainGlobals, [], builtinsNs) := e
      simp only [Option.some.injEq, Prod.mk.injEq] at e2
      obtain ⟨h1, h2, h3, h4, h5, h6, h7, h8⟩ := e2
      subst h1 h2 h3 h4 h5 h6 h7 h8
      have c3 : (PySem.W.codeIn K n13 d.qual && (dflB K n8 [] && kwdB K n9 [])) = true := c2
      obtain ⟨k1, k2⟩ := ba c3
      obtain ⟨k3, k4⟩ := ba k2
      exact ⟨_, ⟨oc, od, n8, n9, n10, n11, n12, n13, n14, osl, rfl, q, k1, dflB_ok k3, kwdB_ok k4⟩, kp⟩
    | _ => cases c2
/-! ### facts of classes with slots -/
def dO {α : Type} [DecidableEq α] (a b : Option α) : Bool := decide (a = b)
theorem dO_ok {α : Type} [DecidableEq α] {a b : Option α} (h : dO a b = true) : a = b := of_decide_eq_true h
/-- the class at the module's name x: plain, with slots -/
def sclB (K : PySem.W.Frag) (x : Str) : Bool := PySem.W.plainGet K (ga K x) Str.empty && (PySem.W.isClsIn K (ga K x) && (PySem.W.plainOver K (ga K x) && eqO (PySem.W.findIn K (.ref (ga K x)) "__setattr__") (some (some (.builtin "object.__setattr__")))))
theorem sclB_ok {K : PySem.W.Frag} {x : Str} (h : sclB K x = true) : SlX.SCls K (ga K x) := by
  obtain ⟨c1, c⟩ := ba h
  obtain ⟨c2, c⟩ := ba c
  obtain ⟨c3, c4⟩ := ba c
  exact ⟨c1, c2, c3, eqO_ok c4⟩
def slotB (K : PySem.W.Frag) (x f : Str) (i : Nat) : Bool := eqO (PySem.W.findIn K (.ref (ga K x)) f) (some (some (.ref (ma K (ga K x) f)))) && (eqO (PySem.W.specialIn K (.ref (ma K (ga K x) f)) "__get__") (some (some (.builtin "member_descriptor.__get__"))) && (dO (PySem.W.takesIn K (.ref (ma K (ga K x) f))) (some true) && (dO (PySem.W.typeIn K (.ref (ma K (ga K x) f))) (some (.type "member_descriptor")) && dO (PySem.W.slotIn K (ma K (ga K x) f) (ga K x)) (some i))))
theorem slotB_ok {K : PySem.W.Frag} {x f : Str} {i : Nat} (h : slotB K x f i = true) (hi : i < 1000) : SlX.Slot1 K (ga K x) f (ma K (ga K x) f) i := by
  obtain ⟨c1, c⟩ := ba h
  obtain ⟨c2, c⟩ := ba c
  obtain ⟨c3, c⟩ := ba c
  obtain ⟨c4, c5⟩ := ba c
  exact ⟨eqO_ok c1, eqO_ok c2, dO_ok c3, dO_ok c4, dO_ok c5, hi⟩
def sisB (K : PySem.W.Frag) (x : Str) : Bool := eqO (PySem.W.findIn K (.ref (ga K x)) "__class__") (some (some (.builtin "object.__class__"))) && (eqO (PySem.W.specialIn K (.builtin "object.__class__") "__get__") (some (some (.builtin "getset_descriptor.__get__"))) && (dO (PySem.W.takesIn K (.builtin "object.__class__")) (some true) && dO (PySem.W.mroIn K (ga K x) (.type "object")) (some true)))
theorem sisB_ok {K : PySem.W.Frag} {x : Str} (h : sisB K x = true) : SlX.SIsi K (ga K x) := by
  obtain ⟨c1, c⟩ := ba h
  obtain ⟨c2, c⟩ := ba c
  obtain ⟨c3, c4⟩ := ba c
  exact ⟨eqO_ok c1, eqO_ok c2, dO_ok c3, dO_ok c4⟩
/-- a method: found in the class, a function -/
structure Mt (K : PySem.W.Frag) (C : Addr) (m : Str) (g : Addr) : Prop where
  at_ : PySem.W.findIn K (.ref C) m = some (some (.ref g))
  fn : PySem.W.isFn K (.ref g) = true
def mtB (K : PySem.W.Frag) (x m : Str) : Bool := eqO (PySem.W.findIn K (.ref (ga K x)) m) (some (some (.ref (ma K (ga K x) m)))) && PySem.W.isFn K (.ref (ma K (ga K x) m))
theorem mtB_ok {K : PySem.W.Frag} {x m : Str} (h : mtB K x m = true) : Mt K (ga K x) m (ma K (ga K x) m) := by
  obtain ⟨c1, c2⟩ := ba h
  exact ⟨eqO_ok c1, c2⟩
/-- a property, its getter at g -/
structure Pr (K : PySem.W.Frag) (C : Addr) (f : Str) (p g : Addr) : Prop where
  at_ : PySem.W.findIn K (.ref C) f = some (some (.ref p))
  get : PySem.W.specialIn K (.ref p) "__get__" = some (some (.builtin "property.__get__"))
  tk : PySem.W.takesIn K (.ref p) = some true
  rc : ∃ rest, PySem.W.recIn K p "property" = some (.ref g :: rest)
def recB (K : PySem.W.Frag) (p g : Addr) : Bool := match PySem.W.recIn K p "property" with
  | some (.ref a :: _) => decide (a = g)
  | _ => false
def prB (K : PySem.W.Frag) (x f : Str) : Bool := eqO (PySem.W.findIn K (.ref (ga K x)) f) (some (some (.ref (ma K (ga K x) f)))) && (eqO (PySem.W.specialIn K (.ref (ma K (ga K x) f)) "__get__") (some (some (.builtin "property.__get__"))) && (dO (PySem.W.takesIn K (.ref (ma K (ga K x) f))) (some true) && recB K (ma K (ga K x) f) (prA K (ga K x) f)))
theorem prB_ok {K : PySem.W.Frag} {x f : Str} (h : prB K x f = true) : Pr K (ga K x) f (ma K (ga K x) f) (prA K (ga K x) f) := by
  obtain ⟨c1, c⟩ := ba h
  obtain ⟨c2, c⟩ := ba c
  obtain ⟨c3, c4⟩ := ba c
  refine ⟨eqO_ok c1, eqO_ok c2, dO_ok c3, ?_⟩
  unfold recB at c4
  cases q : PySem.W.recIn K (ma K (ga K x) f) "property" with
  | none => rw [q] at c4; cases c4
  | some l =>
    rw [q] at c4
    cases l with
    | nil => cases c4
    | cons a r =>
      cases a with
      | ref b =>
        have e : b = prA K (ga K x) f := of_decide_eq_true c4
        rw [← e]
        exact ⟨r, rfl⟩
      | _ => cases c4
/-! ### the Hook -/
abbrev AlG : Type := Bool × List FnW
def obsG (fa : List Fa) (fn : List GD) (ex : PySem.W.Frag → Bool) (K : PySem.W.Frag) : AlG := ((fa.all fun f => f.ok K) && ((fn.all fun d => d.ok K) && ex K), fn.map fun d => fnA K (d.at_.adr K))
def valG (fn : List GD) : AlG := (true, fn.map GD.val)
def SaysG (fa : List Fa) (fn : List GD) (ex : PySem.W.Frag → Bool) (K : PySem.W.Frag) : Prop := obsG fa fn ex K = valG fn
section
variable {fa : List Fa} {fn : List GD} {ex : PySem.W.Frag → Bool} {K : PySem.W.Frag}
theorem SaysG.all (c : SaysG fa fn ex K) : ((fa.all fun f => f.ok K) && ((fn.all fun d => d.ok K) && ex K)) = true := congrArg (fun z : AlG => z.1) c
theorem SaysG.fact (c : SaysG fa fn ex K) (i : Nat) {f : Fa} (h : fa[i]? = some f := by rfl) : f.ok K = true := List.all_eq_true.mp (ba c.all).1 f (List.mem_of_getElem? h)
theorem SaysG.more (c : SaysG fa fn ex K) : ex K = true := (ba (ba c.all).2).2
theorem SaysG.def_ (c : SaysG fa fn ex K) (i : Nat) {d : GD} (h : fn[i]? = some d := by rfl) : ∃ fd, FunD K d.name d.qual d.params d.body d.scope [] [] (d.at_.adr K) fd := by
  have c2 := (ba (ba c.all).2).1
  have e : fn.map (fun d => fnA K (d.at_.adr K)) = fn.map GD.val := congrArg (fun z : AlG => z.2) c
  have e2 : (fn.map fun d => fnA K (d.at_.adr K))[i]? = (fn.map GD.val)[i]? := by rw [e]
  rw [List.getElem?_map, List.getElem?_map, h] at e2
  exact GD.funD (Option.some.inj e2) (List.all_eq_true.mp c2 d (List.mem_of_getElem? h))
end
end HookG

set_option Elab.async false
set_option linter.all false
set_option maxRecDepth 100000
set_option maxHeartbeats 2000000
/-! HookG's Hook over a lesser fragment: what the globals name, what is named by that, and so on; a function names its code and its defaults only -/
namespace HookG
open PySem PySem.Spec PyProof.Rows L2 He
end HookG

set_option Elab.async false
set_option linter.all false
set_option maxRecDepth 100000
set_option maxHeartbeats 2000000
/-! An own exception class over a built-in one whose __init__ says super().__init__('..') and then self.f = f: made, raised, caught, its field read -/
namespace PySem
namespace SupX
open PySem.W PySem.Calls PyProof.Rows PySem.HandSPX
abbrev ff : Str := PySem.Str.ofString "reason"
def iA (p1 p2 : Pos) : Arguments := { posonlyargs := [], args := [{ arg := "self", annotation := none, pos := p1 }, { arg := ff, annotation := none, pos := p2 }], vararg := none, kwonlyargs := [], kw_defaults := [], kwarg := none, defaults := [] }
def iB (msg : Str) (k : Nat) (q1 q2 q3 q4 q5 q6 r1 r2 r3 r4 : Pos) : List Stmt :=
  [.Expr (.Call (.Attribute (.Call (.Name "super" q1) [] [] q2) "__init__" q3) [.Constant (.str msg) k q4] [] q5) q6, .Assign [.Attribute (.Name "self" r1) ff r2] (.Name ff r3) r4]
def iS : Scope := { kind := .function, names := [(PySem.Str.ofString "self", .local), (ff, .local), (PySem.Str.ofString "__class__", .free), (PySem.Str.ofString "super", .globalImplicit)], isGenerator := false, isCoroutine := false, more := [] }
/-- what the written part says of the class x, at C, of its __init__, at fI (its cell at cc, its code at cda) -/
structure SupTxt (K : Frag) (mg : Str → Option Value) (x msg : Str) (newId : String) (bmB : List Value) (file : Str) (C fI cc cda : Addr) : Prop where
  gC : mg x = some (.ref C)
  cls : ∃ nm q N bs sn sub ab col dd k0 k1 k2 k3 k5, K.lookup C = some (excClassObj nm q C N bs bmB true sn sub ab col dd k0 k1 k2 k3 k5 newId)
  sa : findIn K (.ref C) "__setattr__" = some (some (.builtin "object.__setattr__"))
  ga : findIn K (.ref C) "__getattribute__" = some (some (.builtin "BaseException.__getattribute__"))
  gg : findIn K (.ref C) "__getattr__" = some none
  noN : findIn K (.ref C) ff = some none
  iC : findIn K (.ref C) "__init__" = some (some (.ref fI))
  tC : typeIn K (.ref fI) = some (.type "function")
  kC : keepIn K (.ref C) = true
  exC : subIn K (.ref C) (.type "BaseException") = some true
  tyC : typeIn K (.ref C) = some (.type "type")
  hdC : hasDictIn K C = true
  te : exmOne K (.ref C) (.ref C) = some true
  sup : nsIn K mainGlobals "super" = some none
  opq : nsIn K cStatics "thirdparty.any" = some none
  cell : ∃ cl cld csl, K.lookup cc = some ⟨cl, cld, .cell (some (.ref C)), csl⟩
  code : ∃ ccl cdd vs ccs tf, K.lookup cda = some ⟨ccl, cdd, .fields vs, ccs⟩ ∧ vs[2]? = some (.str file tf)
  fn : ∃ (oc : Value) (od : Option Addr) (q : Str) (dV kV doc pm : Value) (an : Option Addr) (ct : Value) (osl : Array (Option Value)) (p1 p2 q1 q2 q3 q4 q5 q6 r1 r2 r3 r4 : Pos) (k : Nat),
    K.lookup fI = some ⟨oc, od, .func (ksFn "__init__" q (iA p1 p2) (iB msg k q1 q2 q3 q4 q5 q6 r1 r2 r3 r4) iS .none .none doc pm an (.ref cda) ct cc), osl⟩ ∧ codeIn K (.ref cda) q = true ∧ (q3.endLine == q5.line) = true
structure SupP (P : Program) (file : Str) : Prop where
  file : ((P.main.file : Str) == file) = true
  top : (P.main.scope.names.lookup ("super" : Str)).isSome = false
/-- what is asked of the built-in class -/
structure SupB (B newId initId : String) (bmB : List Value) : Prop where
  fb : ExcBaseFacts B newId initId bmB
  kf : KxsFacts B initId
  al : ∀ K : Frag, alongIn K "__init__" bmB = some (some (.builtin initId))
  ps : ∀ self : Value, refuseLoop self "__setattr__" bmB = pure ()
  ob : bmB.contains (.type "object") = true
theorem sup_ArithmeticError : SupB "ArithmeticError" "ArithmeticError.__new__" "ArithmeticError.__init__" [.type "ArithmeticError", .type "Exception", .type "BaseException", .type "object"] :=
  ⟨F.excBase_ArithmeticError, kxs_ArithmeticError, fun K => by kernel_rfl, fun self => F.store_ArithmeticError.passes self, by decide +kernel⟩
theorem one_size (v : Value) : [v].length ≤ sizeLine := by
  rw [sizeLine_eq]
  exact (by decide : 1 ≤ 16777216)
section
open Builtin Builtin.ObjectAttr
variable {prog : Program} {w : World} {A : Around} {E : Value → Shared → Prop} {R : Result → Shared → Prop} {hp : Heap} {g : Array GenState} {d : Drawn} {t : Nat} {os : OsState} {B newId initId : String} {bmB : List Value}
/-- self.f = v on a fresh exception -/
theorem osa_new (SB : SupB B newId initId bmB) {K : Frag} {name : Str} {tk : Tok} {v : Value} {x C : Addr} {fv : Array Value} {cd : ClassData}
    (X : K.In hp) (hx : hp.get? x = some { cls := .ref C, data := .fields fv }) (hcd : clsIn K C = some cd) (hm : cd.mro = .ref C :: bmB) (hh : cd.hasDict = true) (ha : findIn K (.ref C) name = some none)
    (hq : ∀ h' tk' dx, (∀ b o, b ≠ x → hp.get? b = some o → h'.get? b = some o) → hp.objs.size ≤ dx → dx ≠ x → h'.get? x = some { cls := .ref C, dict := some dx, data := .fields fv } →
      h'.Ns1 dx (fun y => if y = name then some v else none) → R (.ok (.ret .none)) ⟨h', g, d, tk', os⟩) :
    codeAny (model prog w) A (.call (.builtin "object.__setattr__") ⟨[.ref x, .str name tk, v], []⟩) R ⟨hp, g, d, t, os⟩ := by
  have I : InstAt hp x { cls := .ref C, data := .fields fv } C none := ⟨hx, rfl, rfl, trivial⟩
  have SF := F.store_object
  have hob : cd.mro.contains (.type "object") = true := by rw [hm, List.contains_cons, SB.ob, Bool.or_true]
  have ne : cd.mro.isEmpty = false := by rw [hm]; rfl
  have hxs : x ≠ hp.objs.size := Nat.ne_of_lt (Heap.lt_size hx)
  have sub : Looks (model prog w) hp (isInstance (.ref x) (.type "object")) true := I.type.andThen (looks_mroIn X (by unfold mroIn; rw [hcd, Option.bind_some, if_neg (by rw [ne]; decide), hob]))
  refine codeAny_call_builtin SF.slot.plain SF.entry (@check_slot (model prog w) _ _ ⟨hp, g, d, t, os⟩ "object.__setattr__" "object" "__setattr__" (.ref x) [.str name tk, v] [] _ SF.kind SF.split sub (SF.args (.ref x) (.str name tk) v) ?_)
  have hmr : Looks (model prog w) hp (mroOf (.ref C)) cd.mro := (looks_clsIn X hcd).andThen .now
  have L3 : Looks (model prog w) hp (storeTaker? none) none := .now
  have hcls : Looks (model prog w) hp (classData C) cd := looks_clsIn X hcd
  rw [osa_eq, refuse_eq]
  refine wpAny_bind (wpAny_bind (I.type.at (wpAny_bind (hmr.at ?_))))
  rw [hm, refuseLoop_ref, SB.ps]
  refine wpAny_pure (wpAny_bind (I.type.at (wpAny_bind ((looks_findIn X ha).at (wpAny_bind (L3.at ?_))))))
  show wpAny _ _ (storeInOwnDict (.ref x) (.ref C) (.str name tk) name v false) _ _ _
  obtain ⟨nm, bs, mro, ns, qn, hd, sn, sb, ab, col, del⟩ := cd
  dsimp only at hh
  subst hh
  unfold storeInOwnDict ownDictForStores
  repeat (first | with_reducible refine store_in_new ?_ ?_ | with_reducible refine wpAny_loadPart_at hx ?_ | with_reducible refine hcls.at ?_ | wp_step)
  · exact ⟨_, #[], _, (Heap.get?_update_ne _ _ _ _ hxs.symm).trans (Heap.get?_push_at rfl rfl), rfl, fun e he => absurd he (by simp), fun _ => rfl⟩
  · intro h' tk' hn' hs
    have hx₁ : (hp.push { cls := .type "dict", data := .dict #[] }).get? x = some { cls := .ref C, data := .fields fv } := Heap.get?_push_of_some _ hx
    refine hq h' tk' hp.objs.size (fun b o hb ho => ?_) (Nat.le_refl _) hxs.symm ?_ hn'
    · exact (hs.2 b (Nat.ne_of_lt (Heap.lt_size ho))).trans ((Heap.get?_update_ne _ _ _ _ hb).trans (Heap.get?_push_of_some _ ho))
    · exact (hs.2 x hxs).trans (Heap.get?_update_self _ hx₁ rfl)
/-- super().__init__(..), the bound wrapper called -/
theorem call_mw (SB : SupB B newId initId bmB) {nm q : Str} {C N : Addr} {bs bm : List Value} {hdct : Bool} {sn : List Str} {sub : List Value} {ab : Bool} {col : Option Bool} {dd : Option Addr} {k0 k1 k2 k3 k5 : Option Value} {u e t0 : Addr} {rest : List Value} {Q : Value → Shared → Prop}
    (hC : hp.get? C = some (excClassObj nm q C N bs bm hdct sn sub ab col dd k0 k1 k2 k3 k5 newId)) (he : hp.get? e = some (excO C t0)) (hu : hp.get? u = some (kxs_mw initId e)) (hrest : rest.length ≤ sizeLine)
    (hq : ∀ h' t1, (∀ b o, b ≠ e → hp.get? b = some o → h'.get? b = some o) → h'.get? e = some (excO C t1) → Q .none ⟨h', g, d, t, os⟩) :
    wpAny (model prog w) A (call (.ref u) rest) Q E ⟨hp, g, d, t, os⟩ := by
  have FB := SB.fb
  refine wpAny_call (codeAny_of_tree ?_)
  show wpAny _ A.in1 (callAny (.ref u) ⟨rest, []⟩) _ _ _
  simp only [callAny]
  refine wpAny_bind (wpAny_load hu ?_)
  simp only [kxs_mw, show (Value.type "method-wrapper" == Value.type "method" || Value.type "method-wrapper" == Value.type "builtin_function_or_method" || Value.type "method-wrapper" == Value.type "method-wrapper") = true by decide, if_true]
  refine KFB.if_so (by decide) ?_
  refine wpAny_bind (check_bound_init FB.toExcCallFacts hC he rfl ?_)
  refine wpAny_bind (wpAny_pure (wpAny_pure ?_))
  refine ⟨plainId_quiet FB.init.plain _, codeAny_builtin FB.initEntry ?_⟩
  exact exc_init_tree (cls := .ref C) (t0 := t0) (dv := none) (c2 := .none) (c3 := .none) (b4 := .bool false) he hrest fun h' k e' _ => hq h' _ k e'
end
theorem eval_mc {o : Expr} {name : Str} {apos pos : Pos} {c : Const} {k : Nat} {cp : Pos} {env : Env} (hline : (apos.endLine == pos.line) = true) :
    eval (.Call (.Attribute o name apos) [.Constant c k cp] [] pos) env = (do
      let ov ← attributeBase o name env (eval o env)
      standAt apos.atName
      let (f, first) ← holding [ov] (getMethod ov name (do return (← importBound o env).getD true))
      callWith pos f first (backTo pos (starEach [.Constant c k cp] env)) []) := by
  have hpos : methodCallPos true o env apos pos = pure pos := by
    unfold methodCallPos
    simp [hline]
  show (do
    let ov ← attributeBase o name env (eval o env)
    standAt apos.atName
    let (f, first) ← holding [ov] (calleeOf true o env ov name)
    let callPos ← methodCallPos true o env apos pos
    callWith callPos f first (backTo pos (starEach [.Constant c k cp] env)) []) = _
  rw [hpos]
  rfl
/-- what __init__ leaves of a fresh exception at x -/
structure InitEnd (h h' : Heap) (x C dx t1 : Addr) (v : Value) : Prop where
  keep : ∀ b o, b ≠ x → h.get? b = some o → h'.get? b = some o
  obj : h'.get? x = some { cls := .ref C, dict := some dx, data := .fields #[.ref t1, .none, .none, .none, .bool false, .none] }
  dbig : h.objs.size ≤ dx
  dne : dx ≠ x
  ns : h'.Ns1 dx (fun y => if y = ff then some v else none)
/-- a made one -/
structure OwnMade (h h' : Heap) (e C d : Addr) (v : Value) : Prop where
  keep : ∀ b o, h.get? b = some o → h'.get? b = some o
  new : h.objs.size ≤ e
  obj : ∃ oe vs, h'.get? e = some oe ∧ oe.cls = .ref C ∧ oe.dict = some d ∧ oe.data = .fields vs ∧ vs[1]? = some .none
  dbig : h.objs.size ≤ d
  dne : d ≠ e
  ns : h'.Ns1 d (fun y => if y = ff then some v else none)
section
variable {prog : Program} {w : World} {A : Around} {E : Value → Shared → Prop} {R : Result → Shared → Prop} {s : Shared} {K : Frag} {mg : Str → Option Value} {base : Heap} {x_ msg file : Str} {B newId initId : String} {bmB : List Value} {C fI cc cda : Addr}
theorem sup_init (T : SupTxt K mg x_ msg newId bmB file C fI cc cda) (SB : SupB B newId initId bmB) (SP : SupP prog file) (hms : msg.length ≤ sizeLine)
    {x t0 : Addr} {v : Value} (X : K.In s.heap) (M : L2.Mod K mg base) (kb : ∀ b o, base.get? b = some o → s.heap.get? b = some o) (hlim : s.heap.NoLimit) (hx : s.heap.get? x = some (excO C t0)) (hnx : K.lookup x = none) (hroom : A.depth < recursionLimit)
    (hq : ∀ h' tk dx t1, InitEnd s.heap h' x C dx t1 v → R (.ok (.ret .none)) { s with heap := h', toks := tk }) :
    codeAny (model prog w) A (.call (.ref fI) ⟨[.ref x, v], []⟩) R s := by
  obtain ⟨oc, od, q, dV, kV, doc, pm, an, ct, osl, p1, p2, q1, q2, q3, q4, q5, q6, r1, r2, r3, r4, k, ho, hcd, hln⟩ := T.fn
  obtain ⟨nm, q', N, bs, sn, sub, ab, col, dd, k0, k1, k2, k3, k5, hC⟩ := T.cls
  obtain ⟨cl, cld, csl, hcell⟩ := T.cell
  obtain ⟨ccl, cdd, vs, ccs, tf, hcode, hvs⟩ := T.code
  obtain ⟨mb, hmb1, hmb2⟩ := M.blt
  have hcl : clsIn K C = some { name := nm, bases := bs, mro := .ref C :: bmB, ns := N, qualname := q', hasDict := true, slotNames := sn, subclasses := sub, abstract := ab, collection := col, hasDel := false } := by unfold clsIn; rw [hC] <;> rfl
  refine ks_codeAny_call_defAt (fd := ksFn "__init__" q (iA p1 p2) (iB msg k q1 q2 q3 q4 q5 q6 r1 r2 r3 r4) iS .none .none doc pm an (.ref cda) ct cc) (binds := [("self", .ref x), (ff, v)]) hroom (X _ _ ho) rfl hlim (codeRec_of X hcd) rfl ?_ ?_ ?_ (fun h₁ hn k₁ => ?_) rfl rfl rfl
  · exact BindsTo.of_eq (by first | rfl | with_unfolding_all rfl)
  · show ∀ x ∈ iS.names, x.2 ≠ NameKind.cell
    decide
  · intro x hx
    simp only [List.mem_cons, List.not_mem_nil, or_false] at hx
    rcases hx with rfl | rfl <;> rfl
  · obtain ⟨hp, g, dr, tk, os⟩ := s
    have X₁ : K.In h₁ := X.keeps k₁
    have hx₁ := k₁ _ _ hx
    have kb₁ : ∀ b o, base.get? b = some o → h₁.get? b = some o := fun b o e => k₁ b o (kb b o e)
    have hLx : hp.objs.size ≠ x := Nat.ne_of_gt (Heap.lt_size hx)
    have hxC : x ≠ C := fun z => by
      rw [z, hC] at hnx
      cases hnx
    show wpAt (model prog w) (A.deeper (ksEnv q iS hp.objs.size fI (.ref cda) cc)) (.func (iB msg k q1 q2 q3 q4 q5 q6 r1 r2 r3 r4) (ksEnv q iS hp.objs.size fI (.ref cda) cc)) (execs (iB msg k q1 q2 q3 q4 q5 q6 r1 r2 r3 r4) (ksEnv q iS hp.objs.size fI (.ref cda) cc)) _ _ ⟨h₁, g, dr, tk + 2, os⟩
    refine ks_wpAt_execs_cons (ks_wpAt_Expr_any (ks_wpAt_MethodCall (pl := do return (← importBound (.Call (.Name "super" q1) [] [] q2) (ksEnv q iS hp.objs.size fI (.ref cda) cc)).getD true) ?_ (eval_mc hln)))
    refine ks_wpAt_super_base (env := ksEnv q iS hp.objs.size fI (.ref cda) cc) rfl rfl rfl rfl (X₁ _ _ ho) rfl rfl rfl (X₁ _ _ hcode) rfl hvs SP.file SP.top ?_
    refine ks_loadName_global rfl rfl (loadGlobal_builtin (env := ksEnv q iS hp.objs.size fI (.ref cda) cc) (M.glob.keeps kb₁) (mg_none_of M.kin M.glob T.sup) (hmb1.keeps kb₁) ((hmb2 _ (by decide)).trans (by first | boot_by_name | rfl | kernel_rfl)) ⟨rfl, ?_⟩)
    refine wpAny_loadName_free rfl rfl rfl ⟨_, X₁ _ _ hcell, rfl⟩ ?_
    refine wpAny_loadName_local rfl rfl hn (by first | rfl | with_unfolding_all rfl | kernel_rfl) ?_
    refine ks_wpAny_isType_cls (X₁ _ _ hC) rfl ⟨rfl, ?_⟩
    have mr : ∀ {b : Value}, (Value.ref C :: bmB).contains b = true → mroIn K C b = some true := fun hb => by
      unfold mroIn
      rw [hcl, Option.bind_some, if_neg (show ¬ (List.isEmpty (Value.ref C :: bmB) = true) from Bool.false_ne_true), hb]
    refine ks_wpAny_call_super (X₁ _ _ hC) rfl hx₁ rfl (fun c e => by cases e) (looks_mroIn X₁ (mr (by rw [List.contains_cons]; simp))) (fun h₂ e₂ k₂ => ?_)
    have X₂ : K.In h₂ := X₁.keeps k₂
    have I₂ : InstAt h₂ x (excO C t0) C none := ⟨k₂ _ _ hx₁, rfl, rfl, trivial⟩
    refine kxs_getMethod SB.kf e₂ (looks_opaque X₂ T.opq) (l₀ := .ref C :: bmB) ((looks_clsIn X₂ hcl).andThen .now) (by simp [List.dropWhile_cons]) X₂ (SB.al K) (I₂.type.andThen (looks_mroIn X₂ (mr (by rw [List.contains_cons, SB.fb.hasB, Bool.or_true])))) hxC rfl ?_
    have hu₃ : (h₂.push (kxs_mw initId x)).get? h₂.objs.size = some (kxs_mw initId x) := Heap.get?_push_at rfl rfl
    have k₃ : ∀ b o, h₂.get? b = some o → (h₂.push (kxs_mw initId x)).get? b = some o := fun b o e => Heap.get?_push_of_some _ e
    refine kxs_callWith (i := initId) (x := x) rfl (evalArgs_plain (spliced_more (wpAny_Constant_str (spliced_none ⟨hu₃, ?_⟩))))
    refine call_mw SB (k₃ _ _ (X₂ _ _ hC)) (k₃ _ _ (k₂ _ _ hx₁)) hu₃ (one_size _) (fun h₄ t1 k₄ hx₄ => ?_)
    have k14 : ∀ b o, b ≠ x → h₁.get? b = some o → h₄.get? b = some o := fun b o hb e => k₄ b o hb (k₃ _ _ (k₂ _ _ e))
    have X₄ : K.In h₄ := fun a o e => k14 a o (fun z => by
      rw [z, hnx] at e
      cases e) (X₁ a o e)
    have hn₄ : h₄.Ns hp.objs.size fun y => List.lookup y [(("self" : Str), Value.ref x), (ff, v)].reverse := by
      obtain ⟨oL, es, ep, hL, r⟩ := hn
      exact ⟨oL, es, ep, k14 _ _ hLx hL, r⟩
    show wpAt _ _ _ (execs [.Assign [.Attribute (.Name "self" r1) ff r2] (.Name ff r3) r4] (ksEnv q iS hp.objs.size fI (.ref cda) cc)) _ _ _
    refine wpAt_of_wpAny (wpAny_execs_cons (plainObj_wpAny_Assign_Attribute ?_))
    refine wpAny_Name (wpAny_loadName_local (v := v) rfl rfl hn₄ (by first | rfl | with_unfolding_all rfl | kernel_rfl) ?_) (by decide)
    refine wpAny_Name (wpAny_loadName_local (v := .ref x) rfl rfl hn₄ (by first | rfl | with_unfolding_all rfl | kernel_rfl) ?_) (by decide)
    refine set_plain X₄ (ox := excO C t1) (od := none) ⟨hx₄, rfl, rfl, trivial⟩ T.sa ?_
    refine osa_new SB X₄ hx₄ hcl rfl rfl T.noN (fun h₅ tk₅ dx k₅ dn dne hx₅ hn₅ => ?_)
    refine wpAny_execs_nil ?_
    have z : hp.objs.size ≤ h₄.objs.size := by
      obtain ⟨oL, es, ep, hL, r⟩ := hn₄
      exact Nat.le_of_lt (Heap.lt_size hL)
    exact hq h₅ tk₅ dx t1 ⟨fun b o hb e => k₅ b o hb (k14 b o hb (k₁ b o e)), hx₅, Nat.le_trans z dn, dne, hn₅⟩
theorem sup_made (T : SupTxt K mg x_ msg newId bmB file C fI cc cda) (SB : SupB B newId initId bmB) (SP : SupP prog file) (hms : msg.length ≤ sizeLine)
    {v : Value} (X : K.In s.heap) (M : L2.Mod K mg base) (kb : ∀ b o, base.get? b = some o → s.heap.get? b = some o) (hlim : s.heap.NoLimit) (hroom : A.depth + 1 < recursionLimit)
    (hq : ∀ h' tk e d, OwnMade s.heap h' e C d v → R (.ok (.ret (.ref e))) { s with heap := h', toks := tk }) :
    codeAny (model prog w) A (.call (.ref C) ⟨[v], []⟩) R s := by
  obtain ⟨nm, q, N, bs, sn, sub, ab, col, dd, k0, k1, k2, k3, k5, hC⟩ := T.cls
  obtain ⟨hp, g, dr, tk, os⟩ := s
  have k : ∀ b o, hp.get? b = some o → ((hp.push (kdv_tup [v])).push (excO C hp.objs.size)).get? b = some o := fun b o e => Heap.get?_push_of_some _ (Heap.get?_push_of_some _ e)
  have hget : ((hp.push (kdv_tup [v])).push (excO C hp.objs.size)).get? (hp.objs.size + 1) = some (excO C hp.objs.size) := by heap_get
  have hnx : K.lookup (hp.objs.size + 1) = none := by
    cases e : K.lookup (hp.objs.size + 1) with
    | none => rfl
    | some o =>
      have z : hp.get? (hp.objs.size + 1) = some o := X _ _ e
      exact absurd (Nat.lt_of_succ_lt (Heap.lt_size z)) (Nat.lt_irrefl _)
  refine call_own SB.fb (fun _ => rfl) (X _ _ hC) (looks_findIn X T.iC) (fun self => bind_fn X self T.tC) (one_size v) ?_
  refine sup_init (s := ⟨(hp.push (kdv_tup [v])).push (excO C hp.objs.size), g, dr, tk, os⟩) T SB SP hms (X.keeps k) M (fun b o e => k b o (kb b o e)) (hlim.keeps k) hget hnx ?_ fun h' tk' dx t1 ⟨k', hx, dn, dne, hns⟩ => ?_
  · show A.depth + 1 < recursionLimit
    exact hroom
  · have old : ∀ b o, hp.get? b = some o → h'.get? b = some o := fun b o e => k' b o (Nat.ne_of_lt (Nat.lt_succ_of_lt (Heap.lt_size e))) (k b o e)
    have z : hp.objs.size + 1 + 1 ≤ dx := by
      first
        | (simpa only [Heap.size_push] using dn)
        | exact dn
        | (have q := dn; rw [Heap.size_push, Heap.size_push] at q; exact q)
    exact ⟨rfl, hq h' tk' (hp.objs.size + 1) dx ⟨old, Nat.le_succ _, ⟨_, _, hx, rfl, rfl, rfl, rfl⟩, Nat.le_trans (Nat.le_trans (Nat.le_succ _) (Nat.le_succ _)) z, dne, hns⟩⟩
end
end SupX
end PySem

namespace L2
open PySem PySem.Spec PyProof.Rows
theorem relO_sup {v : V} {v' : Value} (r : RelV v v') (f : Str) : RelO (List.lookup f [(PySem.SupX.ff, v)]) (if f = PySem.SupX.ff then some v' else none) := by
  by_cases hw : f = PySem.SupX.ff
  · subst hw
    rw [if_pos rfl]
    have q : List.lookup PySem.SupX.ff [(PySem.SupX.ff, v)] = some v := by simp [List.lookup]
    rw [q]
    exact r
  · rw [if_neg hw]
    have qw : (f == PySem.SupX.ff) = false := by simpa using hw
    have q2 : List.lookup f [(PySem.SupX.ff, v)] = none := by simp [List.lookup, qw]
    rw [q2]
    trivial
section
variable {X : Cx} {x_ msg file : Str} {B newId initId : String} {bmB : List Value} {C fI cc cda : Addr}
/-- the class called with e -/
def tMkSup (C : Addr) (ta : TA) : St → Hp → XK → Prop := fun σ H Q => ta σ H fun vs H1 => ∃ v, vs = [v] ∧ ∀ d, H1 d = none → Q (.ref C) (some d) (upd H1 d (.xd [(PySem.SupX.ff, v)]))
theorem pmk_sup {a : Expr} {ta : TA} {p pos : Pos} {k : Nat} (T : PySem.SupX.SupTxt X.K X.mg x_ msg newId bmB file C fI cc cda) (SB : PySem.SupX.SupB B newId initId bmB) (SP : PySem.SupX.SupP X.prog file) (hms : msg.length ≤ sizeLine) (hr : Room k X.A) (ha : PA X [a] ta) (hg : Gl X x_)
    (hdb : (x_ == ("__debug__" : Str)) = false) (he : starEach (a :: []) X.env = (false, eval a X.env) :: starEach [] X.env := by rfl) (hpl : (backTo pos (starEach [] X.env)).any (·.1) = false := by rfl) :
    PMk X (.Call (.Name x_ p) [a] [] pos) (tMkSup C ta) := by
  intro pins s σ H Q I h
  refine wpAny_Call_Name_kw (ld_glob I hg T.gC ?_ hdb)
  refine PySem.W.callWith_K (h₀ := X.base) I.ok.mod.kin T.kC (thn (ha.run pos pins s σ H _ I h) fun us s1 hh => ?_) he hpl
  obtain ⟨vs, H1, I1, r1, v, ev, q1⟩ := hh
  subst ev
  refine ⟨I1.kIn, ?_⟩
  cases r1 with
  | cons rv rn =>
    rename_i v' us'
    cases rn
    show wpAny _ _ (call (.ref C) [v']) _ _ _
    have hlim := I1.nolimit
    have kb := I1.bk
    have hmod := I1.mod
    obtain ⟨hp, g, dr, tk, os⟩ := s1
    refine wpAny_call (PySem.SupX.sup_made T SB SP hms I1.kIn hmod kb hlim (by have := hr.dp; omega) fun h' tk' e d M => ?_)
    show MkP X pins σ Q (.ref e) ⟨h', g, dr, tk', os⟩
    obtain ⟨oe, fv, hoe, hc, hd, hdat, h1⟩ := M.obj
    have hns := M.ns
    obtain ⟨G', g1, g2⟩ := restrict h' fun b => decide (b ≠ e)
    have gk : ∀ b, b ≠ e → G'.get? b = h'.get? b := fun b hb => g1 b (decide_eq_true hb)
    have ge : G'.get? e = none := g2 e (by simp)
    have old : ∀ b o, hp.get? b = some o → G'.get? b = some o := fun b o q => (gk b (Nat.ne_of_lt (Nat.lt_of_lt_of_le (Heap.lt_size q) M.new))).trans (M.keep b o q)
    have ob : ObjOk X.prog X.w (upd H1 d (.xd [(PySem.SupX.ff, v)])) G' d (.xd [(PySem.SupX.ff, v)]) :=
      ⟨_, hns.at (fun o q => (gk d M.dne).trans q), fun f => relO_sup rv f⟩
    have J : Inv X pins σ (upd H1 d (.xd [(PySem.SupX.ff, v)])) ⟨G', g, dr, tk', os⟩ := I1.laid (t' := tk') old M.dbig ob
    refine ⟨e, oe, fv, ⟨G', g, dr, tk', os⟩, _, .ref C, some d, rfl, J, fun b o q => ?_, ge, hoe, ⟨hc, hd⟩, hdat, h1, ?_, rfl, I1.bare, raises_own T.exC T.tyC, q1 d (I1.hok.fresh M.dbig)⟩
    · by_cases hb : b = e
      · have q' : G'.get? b = some o := q
        rw [hb, ge] at q'; cases q'
      · exact (gk b hb).symm.trans q
    · rw [upd_ne (Ne.symm M.dne)]
      exact I1.hok.fresh M.new
/-- raise C(e) -/
def tRaiseSup (C : Addr) (W : WX) (ta : TA) : TS := fun _ σ H => tMkSup C ta σ H fun cls d H' => W cls d σ H'
theorem ps_raiseSup {a : Expr} {ta : TA} {W : WX} {p pos pos2 : Pos} {k : Nat} (hc : X.calm = true) (T : PySem.SupX.SupTxt X.K X.mg x_ msg newId bmB file C fI cc cda) (SB : PySem.SupX.SupB B newId initId bmB) (SP : PySem.SupX.SupP X.prog file) (hms : msg.length ≤ sizeLine) (hr : Room k X.A) (tk : Takes X W) (ha : PA X [a] ta) (hg : Gl X x_)
    (hdb : (x_ == ("__debug__" : Str)) = false := by decide) (he : starEach (a :: []) X.env = (false, eval a X.env) :: starEach [] X.env := by rfl) (hpl : (backTo pos (starEach [] X.env)).any (·.1) = false := by rfl) :
    PS X (.Raise (some (.Call (.Name x_ p) [a] [] pos)) none pos2) (tRaiseSup C W ta) := ps_raise hc tk (pmk_sup T SB SP hms hr ha hg hdb he hpl)
end
end L2

set_option Elab.async false
set_option linter.all false
set_option maxRecDepth 100000
set_option maxHeartbeats 2000000
/-! HookW's Hook with own exceptions whose __init__ says super().__init__('..') (SupE): closures stand in the fragment, and each such __init__ is told -/
namespace HookS
open PySem PySem.Spec PyProof.Rows L2 He HookG PySem.SupX
def refsS (o : Obj) : List Addr := match o.data with
  | .func fd => refV fd.code ++ refV fd.defaults ++ refV fd.kwdefaults ++ fd.closure.map (·.2)
  | _ => refsD o
def nxtS (g : Addr → Option Obj) (as : List Addr) : List Addr := as.flatMap fun a => match g a with
  | some o => refsS o
  | none => []
def levS (g : Addr → Option Obj) : Nat → List Addr → List Addr
  | 0, as => as
  | n + 1, as => as ++ levS g n (nxtS g as)
def asS (g : Addr → Option Obj) (n : Nat) : List Addr := levS g n [mainGlobals] ++ [cStatics]
structure SD where
  cls : Str
  msg : Str
  qual : Str
  k : Nat
  p1 : Pos
  p2 : Pos
  q1 : Pos
  q2 : Pos
  q3 : Pos
  q4 : Pos
  q5 : Pos
  q6 : Pos
  r1 : Pos
  r2 : Pos
  r3 : Pos
  r4 : Pos
abbrev FnS : Type := Option (Str × Str × Arguments × FuncBody × Scope × Addr × Addr)
def fnSA (K : PySem.W.Frag) (a : Addr) : FnS := match K.lookup a with
  | some ⟨_, _, .func fd, _⟩ => some (fd.name, fd.qualname, fd.params, fd.body, fd.scope, fd.globals, fd.builtins)
  | _ => none
def SD.val (d : SD) : FnS := some ("__init__", d.qual, iA d.p1 d.p2, .stmts (iB d.msg d.k d.q1 d.q2 d.q3 d.q4 d.q5 d.q6 d.r1 d.r2 d.r3 d.r4), iS, mainGlobals, builtinsNs)
def SD.C (d : SD) (K : PySem.W.Frag) : Addr := ga K d.cls
def SD.fI (d : SD) (K : PySem.W.Frag) : Addr := ma K (d.C K) "__init__"
def ccA (K : PySem.W.Frag) (a : Addr) : Addr := match K.lookup a with
  | some ⟨_, _, .func fd, _⟩ => (match fd.closure with
    | (_, c) :: _ => c
    | _ => 0)
  | _ => 0
def cdA (K : PySem.W.Frag) (a : Addr) : Addr := match K.lookup a with
  | some ⟨_, _, .func fd, _⟩ => (match fd.code with
    | .ref c => c
    | _ => 0)
  | _ => 0
def vB (a b : Value) : Bool := decide (a = b)
def fnB (K : PySem.W.Frag) (a : Addr) : Bool := match K.lookup a with
  | some ⟨_, _, .func fd, _⟩ => decide (fd.closure = [(("__class__" : Str), ccA K a)]) && (vB fd.code (.ref (cdA K a)) && (PySem.W.codeIn K fd.code fd.qualname && (vB fd.defaults .none && vB fd.kwdefaults .none)))
  | _ => false
def clsB (K : PySem.W.Frag) (C : Addr) (bmB : List Value) (newId : String) : Bool := match K.lookup C with
  | some ⟨.type "type", _, .cls cd, sl⟩ => (match cd.mro, sl.toList with
    | .ref C' :: bm, [_, _, _, _, some (.builtin n), _] => C' == C && (n == newId && (!cd.hasDel && (cd.hasDict && decide (bm = bmB))))
    | _, _ => false)
  | _ => false
def cellB (K : PySem.W.Frag) (c C : Addr) : Bool := match K.lookup c with
  | some ⟨_, _, .cell (some (.ref D)), _⟩ => decide (D = C)
  | _ => false
def fileB (K : PySem.W.Frag) (c : Addr) (file : Str) : Bool := match K.lookup c with
  | some ⟨_, _, .fields vs, _⟩ => (match (vs[2]? : Option Value) with
    | some (Value.str f _) => decide (f = file)
    | _ => false)
  | _ => false
def clnB (d : SD) : Bool := d.q3.endLine == d.q5.line
def SD.ok (newId : String) (bmB : List Value) (file : Str) (K : PySem.W.Frag) (d : SD) : Bool :=
  eqO (PySem.W.nsIn K mainGlobals d.cls) (some (some (.ref (d.C K)))) && (clsB K (d.C K) bmB newId && (eqO (PySem.W.findIn K (.ref (d.C K)) "__setattr__") (some (some (.builtin "object.__setattr__"))) &&
  (eqO (PySem.W.findIn K (.ref (d.C K)) "__getattribute__") (some (some (.builtin "BaseException.__getattribute__"))) && (eqO (PySem.W.findIn K (.ref (d.C K)) "__getattr__") (some none) && (eqO (PySem.W.findIn K (.ref (d.C K)) ff) (some none) &&
  (eqO (PySem.W.findIn K (.ref (d.C K)) "__init__") (some (some (.ref (d.fI K)))) && (dO (PySem.W.typeIn K (.ref (d.fI K))) (some (.type "function")) && (PySem.W.keepIn K (.ref (d.C K)) && (dO (PySem.W.subIn K (.ref (d.C K)) (.type "BaseException")) (some true) &&
  (dO (PySem.W.typeIn K (.ref (d.C K))) (some (.type "type")) && (PySem.W.hasDictIn K (d.C K) && (dO (PySem.W.exmOne K (.ref (d.C K)) (.ref (d.C K))) (some true) && (eqO (PySem.W.nsIn K mainGlobals "super") (some none) && (eqO (PySem.W.nsIn K cStatics "thirdparty.any") (some none) &&
  (cellB K (ccA K (d.fI K)) (d.C K) && (fileB K (cdA K (d.fI K)) file && (fnB K (d.fI K) && clnB d)))))))))))))))))
theorem clsB_ok {K : PySem.W.Frag} {C : Addr} {bmB : List Value} {newId : String} (q : clsB K C bmB newId = true) :
    ∃ nm q N bs sn sub ab col dd k0 k1 k2 k3 k5, K.lookup C = some (excClassObj nm q C N bs bmB true sn sub ab col dd k0 k1 k2 k3 k5 newId) := by
  unfold clsB at q
  split at q
  · rename_i dd cd sl ho
    split at q
    · rename_i C' bm k0 k1 k2 k3 n k5 hm hs
      simp only [Bool.and_eq_true, beq_iff_eq, Bool.not_eq_true', decide_eq_true_eq] at q
      obtain ⟨rfl, rfl, hdel, hdi, rfl⟩ := q
      obtain ⟨nm, bs, mro, ns, qn, hd, sn, sub, ab, col, del⟩ := cd
      dsimp only at hm hdel hdi
      subst hm hdel hdi
      have hsl : sl = #[k0, k1, k2, k3, some (.builtin n), k5] := by
        obtain ⟨l⟩ := sl
        simp only at hs
        rw [hs]
      subst hsl
      exact ⟨nm, qn, ns, bs, sn, sub, ab, col, dd, k0, k1, k2, k3, k5, ho⟩
    · cases q
  · cases q
theorem SD.sup {newId : String} {bmB : List Value} {file : Str} {K : PySem.W.Frag} {h : Heap} {mg : Str → Option Value} {d : SD} (X : K.In h) (G : h.Ns mainGlobals mg) (e : fnSA K (d.fI K) = d.val) (c : d.ok newId bmB file K = true) :
    SupTxt K mg d.cls d.msg newId bmB file (d.C K) (d.fI K) (ccA K (d.fI K)) (cdA K (d.fI K)) := by
  obtain ⟨c1, c⟩ := ba c
  obtain ⟨c2, c⟩ := ba c
  obtain ⟨c3, c⟩ := ba c
  obtain ⟨c4, c⟩ := ba c
  obtain ⟨c5, c⟩ := ba c
  obtain ⟨c6, c⟩ := ba c
  obtain ⟨c7, c⟩ := ba c
  obtain ⟨c8, c⟩ := ba c
  obtain ⟨c9, c⟩ := ba c
  obtain ⟨c10, c⟩ := ba c
  obtain ⟨c11, c⟩ := ba c
  obtain ⟨c12, c⟩ := ba c
  obtain ⟨c13, c⟩ := ba c
  obtain ⟨c14, c⟩ := ba c
  obtain ⟨c15, c⟩ := ba c
  obtain ⟨c16, c⟩ := ba c
  obtain ⟨c17, c⟩ := ba c
  obtain ⟨c18, c19⟩ := ba c
  refine ⟨PySem.W.mg_of X G (eqO_ok c1), clsB_ok c2, eqO_ok c3, eqO_ok c4, eqO_ok c5, eqO_ok c6, eqO_ok c7, dO_ok c8, c9, dO_ok c10, dO_ok c11, c12, dO_ok c13, eqO_ok c14, eqO_ok c15, ?_, ?_, ?_⟩
  · unfold cellB at c16
    split at c16
    · rename_i oc od D osl ho
      exact ⟨oc, od, osl, by rw [ho, of_decide_eq_true c16]⟩
    · cases c16
  · unfold fileB at c17
    split at c17
    · rename_i oc od vs osl ho
      split at c17
      · rename_i f t hf
        exact ⟨oc, od, vs, osl, t, ho, by rw [hf, of_decide_eq_true c17]⟩
      · cases c17
    · cases c17
  · unfold fnSA at e
    unfold fnB at c18
    cases ho : K.lookup (d.fI K) with
    | none => rw [ho] at c18; cases c18
    | some o =>
      obtain ⟨oc, od, dt, osl⟩ := o
      rw [ho] at c18 e
      cases dt with
      | func fd =>
        obtain ⟨n1, n2, n3, n4, n5, n6, n7, n8, n9, n10, n11, n12, n13, n14, n15⟩ := fd
        have e2 : (some (n1, n2, n3, n4, n5, n6, n15) : FnS) = d.val := e
        unfold SD.val at e2
        simp only [Option.some.injEq, Prod.mk.injEq] at e2
        obtain ⟨h1, h2, h3, h4, h5, h6, h7⟩ := e2
        subst h1 h2 h3 h4 h5 h6 h7
        obtain ⟨a1, a⟩ := ba c18
        obtain ⟨a2, a⟩ := ba a
        obtain ⟨a3, a⟩ := ba a
        obtain ⟨a4, a5⟩ := ba a
        have b1 : n7 = [(("__class__" : Str), ccA K (d.fI K))] := of_decide_eq_true a1
        have b2 : n13 = .ref (cdA K (d.fI K)) := of_decide_eq_true a2
        have b4 : n8 = .none := of_decide_eq_true a4
        have b5 : n9 = .none := of_decide_eq_true a5
        generalize ccA K (d.fI K) = cc at *
        generalize cdA K (d.fI K) = cda at *
        subst b1 b2 b4 b5
        exact ⟨oc, od, d.qual, .none, .none, n10, n11, n12, n14, osl, d.p1, d.p2, d.q1, d.q2, d.q3, d.q4, d.q5, d.q6, d.r1, d.r2, d.r3, d.r4, d.k, rfl, a3, c19⟩
      | _ => cases c18
/-! ### the Hook -/
abbrev AlS : Type := AlG × List FnS
def obsS (fa : List Fa) (fn : List GD) (ex : PySem.W.Frag → Bool) (sd : List SD) (K : PySem.W.Frag) : AlS := (obsG fa fn ex K, sd.map fun d => fnSA K (d.fI K))
def valS (fn : List GD) (sd : List SD) : AlS := (valG fn, sd.map SD.val)
def SaysS (fa : List Fa) (fn : List GD) (ex : PySem.W.Frag → Bool) (sd : List SD) (K : PySem.W.Frag) : Prop := obsS fa fn ex sd K = valS fn sd
def obsGS (n : Nat) (fa : List Fa) (fn : List GD) (ex : PySem.W.Frag → Bool) (sd : List SD) (g : Addr → Option Obj) : AlS := obsS fa fn ex sd (frG g (asS g n))
def hookS (n : Nat) (fa : List Fa) (fn : List GD) (ex : PySem.W.Frag → Bool) (sd : List SD) : PySem.W.Hook where
  α := AlS
  obs := fun s => obsGS n fa fn ex sd s.heap.get?
  val := fun _ => valS fn sd
  says := fun _ h => ∃ K : PySem.W.Frag, K.In h ∧ SaysS fa fn ex sd K
  of := fun _ _ e => ⟨_, frG_in, e⟩
  keeps := fun _ _ _ ⟨K, hK, c⟩ k => ⟨K, PySem.W.Frag.In.keeps hK k, c⟩
theorem obsGS_eq {n : Nat} {fa : List Fa} {fn : List GD} {ex : PySem.W.Frag → Bool} {sd : List SD} {g : Addr → Option Obj} {s : Shared} (h : ∀ a, g a = s.heap.get? a) : obsGS n fa fn ex sd g = (hookS n fa fn ex sd).obs s := by
  have e : g = s.heap.get? := funext h
  rw [e] <;> rfl
theorem SaysS.g {fa : List Fa} {fn : List GD} {ex : PySem.W.Frag → Bool} {sd : List SD} {K : PySem.W.Frag} (c : SaysS fa fn ex sd K) : SaysG fa fn ex K := congrArg (fun z : AlS => z.1) c
theorem SaysS.s {fa : List Fa} {fn : List GD} {ex : PySem.W.Frag → Bool} {sd : List SD} {K : PySem.W.Frag} (c : SaysS fa fn ex sd K) (i : Nat) {d : SD} (h : sd[i]? = some d := by rfl) : fnSA K (d.fI K) = d.val := by
  have e : sd.map (fun d => fnSA K (d.fI K)) = sd.map SD.val := congrArg (fun z : AlS => z.2) c
  have e2 : (sd.map fun d => fnSA K (d.fI K))[i]? = (sd.map SD.val)[i]? := by rw [e]
  rw [List.getElem?_map, List.getElem?_map, h] at e2
  exact Option.some.inj e2
end HookS

set_option Elab.async false
set_option linter.all false
set_option maxRecDepth 100000
set_option maxHeartbeats 2000000
/-! a module's constant that is a tuple of ints; `n not in t` for a tuple of ints -/
namespace StatT
open PySem PySem.Spec PyProof.Rows L2 He HookG
def intsB : List Int → List Value → Bool
  | [], [] => true
  | i :: l, .int j _ :: us => decide (i = j) && intsB l us
  | _, _ => false
theorem intsB_ok : ∀ {l : List Int} {us : List Value}, intsB l us = true → Vals (l.map V.int) us
  | [], [], _ => .nil
  | i :: l, .int j t :: us, h => by
    obtain ⟨h1, h2⟩ := ba (show (decide (i = j) && intsB l us) = true from h)
    have e : i = j := of_decide_eq_true h1
    subst e
    exact .cons ⟨t, rfl⟩ (intsB_ok h2)
/-- x is a tuple of these ints -/
structure Tp (K : PySem.W.Frag) (mg : Str → Option Value) (x : Str) (l : List Int) (a : Addr) : Prop where
  g : mg x = some (.ref a)
  sq : ∀ H : Hp, SqT K H a (l.map V.int)
section
variable {X : Cx}
end
end StatT

set_option Elab.async false
set_option linter.all false
set_option maxRecDepth 100000
set_option maxHeartbeats 2000000
/-! a module's constant that is a dict from ints to tuples of tuples of ints: d[k], k not in d -/
namespace DictT
open PySem PySem.Spec PyProof.Rows L2 He HookG StatT
def rowB (K : PySem.W.Frag) (r : Addr) (l : List Int) : Bool := match K.lookup r with
  | some ⟨.type "tuple", _, .seq its _, _⟩ => intsB l its.toList && decide (its.size ≤ 1000)
  | _ => false
theorem rowB_ok {K : PySem.W.Frag} {r : Addr} {l : List Int} (c : rowB K r l = true) (H : Hp) : SqT K H r (l.map V.int) := by
  unfold rowB at c
  split at c
  · rename_i od its n sl ho
    obtain ⟨c3, c4⟩ := ba c
    have hz : its.size ≤ 1000 := of_decide_eq_true c4
    exact .inr ⟨_, its, n, ho, rfl, rfl, by rw [sizeLine_eq]; omega, intsB_ok c3⟩
  · cases c
def rowsA (K : PySem.W.Frag) : List (List Int) → List Value → Bool
  | [], [] => true
  | l :: ls, .ref r :: us => rowB K r l && rowsA K ls us
  | _, _ => false
theorem rowsA_ok {K : PySem.W.Frag} : ∀ {ls : List (List Int)} {us : List Value}, rowsA K ls us = true → ∃ rs : List Addr, rs.length = ls.length ∧ us = rs.map Value.ref ∧ ∀ (i : Nat) (h : i < rs.length) (l : List Int), ls[i]? = some l → ∀ H, SqT K H rs[i] (l.map V.int)
  | [], [], _ => ⟨[], rfl, rfl, fun i h => absurd h (Nat.not_lt_zero i)⟩
  | l :: ls, .ref r :: us, h => by
    obtain ⟨h1, h2⟩ := ba (show (rowB K r l && rowsA K ls us) = true from h)
    obtain ⟨rs, e1, e2, e3⟩ := rowsA_ok h2
    refine ⟨r :: rs, by rw [List.length_cons, List.length_cons, e1], by rw [e2]; rfl, fun i hi x hx H => ?_⟩
    cases i with
    | zero =>
      have : l = x := Option.some.inj hx
      subst this
      exact rowB_ok h1 H
    | succ i => exact e3 i (by simpa using hi) x (by simpa using hx) H
theorem refs_vals : ∀ rs : List Addr, Vals (rs.map V.ref) (rs.map Value.ref)
  | [] => .nil
  | _ :: rs => .cons rfl (refs_vals rs)
/-- a tuple of tuples of ints, made by the module -/
def Rk (K : PySem.W.Frag) (b : Addr) (rows : List (List Int)) : Prop := ∃ rs : List Addr, rs.length = rows.length ∧ (∀ H : Hp, SqT K H b (rs.map V.ref)) ∧ ∀ (i : Nat) (h : i < rs.length) (l : List Int), rows[i]? = some l → ∀ H, SqT K H rs[i] (l.map V.int)
def rowsB (K : PySem.W.Frag) (b : Addr) (rows : List (List Int)) : Bool := match K.lookup b with
  | some ⟨.type "tuple", _, .seq its _, _⟩ => rowsA K rows its.toList && decide (its.size ≤ 1000)
  | _ => false
theorem rowsB_ok {K : PySem.W.Frag} {b : Addr} {rows : List (List Int)} (c : rowsB K b rows = true) : Rk K b rows := by
  unfold rowsB at c
  split at c
  · rename_i od its n sl ho
    obtain ⟨c3, c4⟩ := ba c
    have hz : its.size ≤ 1000 := of_decide_eq_true c4
    obtain ⟨rs, e1, e2, e3⟩ := rowsA_ok c3
    exact ⟨rs, e1, fun H => .inr ⟨_, its, n, ho, rfl, rfl, by rw [sizeLine_eq]; omega, by rw [e2]; exact refs_vals rs⟩, e3⟩
  · cases c
def entB (K : PySem.W.Frag) : List (Int × List (List Int)) → List DictEntry → Bool
  | [], [] => true
  | (k, rows) :: l, ⟨h, .int j _, .ref b⟩ :: es => decide (k = j) && (decide (h = hashInt k) && (rowsB K b rows && entB K l es))
  | _, _ => false
/-- the entry of a key -/
def look {α : Type} : List (Int × α) → Int → Option α
  | [], _ => none
  | (k, a) :: l, i => if k = i then some a else look l i
structure EntOk (K : PySem.W.Frag) (P : Program) (w : World) (l : List (Int × List (List Int))) (es : List DictEntry) (kvs : List (Int × Value)) : Prop where
  ps : Pairs (intKind P w) es kvs
  ks : ∀ e ∈ es, ∃ k, (intKind P w).is k e.key = true ∧ e.hash = (intKind P w).hash k
  nm : kvs.map (·.1) = l.map (·.1)
  lk : ∀ i rows, look l i = some rows → ∃ b, valueAt kvs i = some (.ref b) ∧ Rk K b rows
  ln : ∀ i, look l i = none → valueAt kvs i = none
theorem valueAt_cons {k i : Int} {v : Value} {r : List (Int × Value)} : valueAt ((k, v) :: r) i = if k = i then some v else valueAt r i := by
  unfold valueAt
  rw [List.find?_cons]
  by_cases h : k = i
  · rw [if_pos h]
    simp [h]
  · rw [if_neg h]
    simp [h]
theorem entB_ok {K : PySem.W.Frag} {P : Program} {w : World} : ∀ {l : List (Int × List (List Int))} {es : List DictEntry}, entB K l es = true → ∃ kvs, EntOk K P w l es kvs
  | [], [], _ => ⟨[], .nil, fun e h => absurd h List.not_mem_nil, rfl, fun i rows h => (by unfold look at h; cases h), fun i _ => rfl⟩
  | (k, rows) :: l, ⟨h, .int j t, .ref b⟩ :: es, c => by
    obtain ⟨c1, c2⟩ := ba (show (decide (k = j) && (decide (h = hashInt k) && (rowsB K b rows && entB K l es))) = true from c)
    obtain ⟨c2, c3⟩ := ba c2
    obtain ⟨c3, c4⟩ := ba c3
    have e1 : k = j := of_decide_eq_true c1
    have e2 : h = hashInt k := of_decide_eq_true c2
    subst e1
    obtain ⟨kvs, E⟩ := entB_ok (P := P) (w := w) c4
    refine ⟨(k, .ref b) :: kvs, ⟨.cons (intKind_is P w k t) rfl E.ps, fun e he => ?_, by rw [List.map_cons, List.map_cons, E.nm], fun i rs hr => ?_, fun i hr => ?_⟩⟩
    · rcases List.mem_cons.mp he with rfl | he
      · exact ⟨k, intKind_is P w k t, e2⟩
      · exact E.ks e he
    · unfold look at hr
      rw [valueAt_cons]
      by_cases q : k = i
      · rw [if_pos q] at hr ⊢
        cases hr
        exact ⟨b, rfl, rowsB_ok c3⟩
      · rw [if_neg q] at hr ⊢
        exact E.lk i rs hr
    · unfold look at hr
      rw [valueAt_cons]
      by_cases q : k = i
      · rw [if_pos q] at hr
        cases hr
      · rw [if_neg q] at hr ⊢
        exact E.ln i hr
/-- a is such a dict -/
def DkA (K : PySem.W.Frag) (a : Addr) (l : List (Int × List (List Int))) : Prop := (a == sysModules) = false ∧ ∃ o es ep, K.lookup a = some o ∧ o.ExactDict ∧ o.data = .dict es ep ∧ entB K l es.toList = true ∧ (l.map (·.1)).Nodup
structure Dk (K : PySem.W.Frag) (mg : Str → Option Value) (x : Str) (l : List (Int × List (List Int))) (a : Addr) : Prop where
  g : mg x = some (.ref a)
  d : DkA K a l
def dictB (K : PySem.W.Frag) (x : Str) (l : List (Int × List (List Int))) : Bool := eqO (PySem.W.nsIn K mainGlobals x) (some (some (.ref (ga K x)))) && (decide ((ga K x == sysModules) = false) && (decide ((l.map (·.1)).Nodup) && (match K.lookup (ga K x) with
  | some ⟨.type "dict", none, .dict es _, sl⟩ => entB K l es.toList && decide (sl.size = 0)
  | _ => false)))
theorem dictB_ok {K : PySem.W.Frag} {h : Heap} {mg : Str → Option Value} {x : Str} {l : List (Int × List (List Int))} (X : K.In h) (G : h.Ns mainGlobals mg) (c : dictB K x l = true) : Dk K mg x l (ga K x) := by
  obtain ⟨c1, c2⟩ := ba c
  obtain ⟨c2, c3⟩ := ba c2
  obtain ⟨c3, c4⟩ := ba c3
  refine ⟨PySem.W.mg_of X G (eqO_ok c1), of_decide_eq_true c2, ?_⟩
  split at c4
  · rename_i es ep sl ho
    obtain ⟨c5, c6⟩ := ba c4
    have hz : sl.size = 0 := of_decide_eq_true c6
    exact ⟨_, es, ep, ho, ⟨rfl, rfl, Array.eq_empty_of_size_eq_zero hz⟩, rfl, c5, of_decide_eq_true c3⟩
  · cases c4
theorem DkA.of {P : Program} {w : World} {K : PySem.W.Frag} {h : Heap} {a : Addr} {l : List (Int × List (List Int))} (X : K.In h) (d : DkA K a l) : ∃ kvs, h.DictOf (intKind P w) a kvs ∧ (∀ i rows, look l i = some rows → ∃ b, valueAt kvs i = some (.ref b) ∧ Rk K b rows) ∧ ∀ i, look l i = none → valueAt kvs i = none := by
  obtain ⟨_, o, es, ep, h1, h2, h3, h4, h5⟩ := d
  obtain ⟨kvs, E⟩ := entB_ok (P := P) (w := w) h4
  refine ⟨kvs, ⟨o, es, ep, X a o h1, h2, h3, fun e he => E.ks e (by simpa using he), E.ps, by rw [E.nm]; exact h5⟩, E.lk, E.ln⟩
section
variable {X : Cx} {o i : Expr} {pos : Pos} {td ty : TE}
def tDGetK (K : PySem.W.Frag) (td ty : TE) : TE := fun σ H Q => td σ H fun x H1 => ty σ H1 fun y H2 => ∃ (a : Addr) (i : Int) (l : List (Int × List (List Int))) (rows : List (List Int)), x = .ref a ∧ y = .int i ∧ DkA K a l ∧ look l i = some rows ∧ ∀ b, Rk K b rows → Q (.ref b) H2
theorem pe_dgetK (ho : PE X o td) (hi : PE X i ty) (hs : NoSl i) : PE X (.Subscript o i pos) (tDGetK X.K td ty) := by
  refine ⟨fun pins s σ H Q I h => ?_⟩
  refine subD_of PySem.F.slot_dict_getitem.lookup hs (thn (ho.run pins s σ H _ I h) fun u s1 ⟨x, H1, I1, rx, q1⟩ => thn (hi.run pins s1 σ H1 _ I1 q1) fun iv s2 ⟨y, H2, I2, ry, a, i, l, rows, ex, ey, d, hl, q2⟩ => ?_)
  subst ex ey
  obtain rfl : u = Value.ref a := rx
  obtain ⟨t, rfl⟩ := ry
  obtain ⟨kvs, dd, lk, _⟩ := d.of (P := X.prog) (w := X.w) I2.kIn
  obtain ⟨b, hb, rk⟩ := lk i rows hl
  exact ⟨dd.typeIs, wpAny_getItem_of (intKind_is X.prog X.w i t) dd.mapOf hb ⟨.ref b, H2, I2.tok _, rfl, q2 b rk⟩⟩
def rNotInDK (K : PySem.W.Frag) : V → V → Hp → VK → Prop := fun x y H Q => ∃ (i : Int) (a : Addr) (l : List (Int × List (List Int))), x = .int i ∧ y = .ref a ∧ DkA K a l ∧ Q (.bl (!(look l i).isSome)) H
theorem op_notInDK : OpR X (compareOp .NotIn) (rNotInDK X.K) := by
  intro pins s σ H x y v u Q I rx ry h
  obtain ⟨i, a, l, rfl, rfl, d, q⟩ := h
  obtain ⟨t, rfl⟩ := rx
  obtain rfl : u = Value.ref a := ry
  obtain ⟨kvs, dd, lk, ln⟩ := d.of (P := X.prog) (w := X.w) I.kIn
  refine wpAny_notIn_of (intKind_is X.prog X.w i t) d.1 dd.mapOf ?_
  cases e : look l i with
  | none =>
    rw [ln i e]
    rw [e] at q
    exact ⟨.bl _, H, I.tok _, rfl, q⟩
  | some rows =>
    obtain ⟨b, hb, _⟩ := lk i rows e
    rw [hb]
    rw [e] at q
    exact ⟨.bl _, H, I.tok _, rfl, q⟩
end
end DictT

set_option Elab.async false
set_option linter.all false
set_option maxRecDepth 100000
set_option maxHeartbeats 2000000
/-! enumerate(t), t a tuple -/
namespace EnumT
open PySem PySem.Spec PyProof.Rows L2
open AutoSeq1 (wpAny_loadPart')
theorem meets_newT (l : Addr) (items : Array Value) (n : Nat) (dct : Option Addr) (sl : Array (Option Value)) :
    Meets (Builtin.«enumerate.__new__» ⟨[.type "enumerate", .ref l], []⟩) (fun _ R s => s.heap.get? l = some { cls := .type "tuple", dict := dct, data := .seq items n, slots := sl } ∧
      R (.ok (.ret (.ref (s.heap.push { cls := .type "tuple_iterator", data := .fields #[.ref l, .int 0 0] }).objs.size)))
        { s with heap := (s.heap.push { cls := .type "tuple_iterator", data := .fields #[.ref l, .int 0 0] }).push { cls := .type "enumerate", data := .fields #[.none, .bool false, .ref s.heap.objs.size, rawInt 0, .none, .none] } }) :=
  .of_wp fun prog w A R s h => by
    obtain ⟨hp, g, d, tk, os⟩ := s; obtain ⟨hl, h⟩ := h
    have hsub := sub_enumerate
    have hL : Heap.IsTuple (Shared.heap ⟨hp, g, d, tk, os⟩) l items := ⟨_, hl, rfl, n, rfl⟩
    wp_walk using wpAny_loadPart' hl
    refine wpAny_stack_any fun st => wpAny_pure ?_
    split
    · rename_i c _ _ _ _ _
      cases (c == Value.type "enumerate")
      · wp_walk using wpAny_loadPart' hl, wpAny_pyIter_tuple hL
        exact ⟨_, rfl, h⟩
      · wp_walk using wpAny_loadPart' hl, wpAny_pyIter_tuple hL
        exact ⟨_, rfl, h⟩
    · wp_walk using wpAny_loadPart' hl, wpAny_pyIter_tuple hL
      exact ⟨_, rfl, h⟩
section
variable {prog : Program} {w : World} {A : Around} {E : Value → Shared → Prop} {s : Shared}
theorem call_enumT {l : Addr} {items : Array Value} {Q : Value → Shared → Prop} (hL : s.heap.IsTuple l items)
    (h : ∀ h', IsEnum h' (s.heap.objs.size + 1) s.heap.objs.size 0 .none → h'.IsTupleIter s.heap.objs.size l 0 → h'.objs.size = s.heap.objs.size + 2 →
      (∀ b o, s.heap.get? b = some o → h'.get? b = some o) → Q (.ref (s.heap.objs.size + 1)) { s with heap := h' }) :
    wpAny (model prog w) A (call (.type "enumerate") [.ref l]) Q E s := by
  obtain ⟨⟨c, dct, dt, sl⟩, hl, hc, n, hd⟩ := hL
  replace hc : c = .type "tuple" := hc
  replace hd : dt = .seq items n := hd
  subst hc hd
  refine callType_new F.called_enumerate (by decide) (F.typeCall_enumerate_1 _) (F.newCall_enumerate_1 _) (fun obj => F.args_object_init_2 obj _) F.entry_enumerate_new
    (meets_newT l items n dct sl) ⟨hl, ?_⟩
  have hz : (s.heap.push { cls := .type "tuple_iterator", data := .fields #[.ref l, .int 0 0] }).objs.size = s.heap.objs.size + 1 := Heap.size_push ..
  show _ ∧ _
  rw [hz]
  have he : IsEnum ((s.heap.push { cls := .type "tuple_iterator", data := .fields #[.ref l, .int 0 0] }).push
      { cls := .type "enumerate", data := .fields #[.none, .bool false, .ref s.heap.objs.size, rawInt 0, .none, .none] }) (s.heap.objs.size + 1) s.heap.objs.size 0 .none := by
    have := Heap.get?_push_size (s.heap.push { cls := .type "tuple_iterator", data := .fields #[.ref l, .int 0 0] })
      (o := { cls := .type "enumerate", data := .fields #[.none, .bool false, .ref s.heap.objs.size, rawInt 0, .none, .none] }) rfl
    rw [hz] at this; exact this
  refine ⟨⟨_, he, rfl⟩, h _ he ⟨_, Heap.get?_push_of_some _ (Heap.get?_push_size _ rfl), rfl, rfl⟩ (by rw [Heap.size_push, hz]) fun b o x => Heap.get?_push_of_some _ (Heap.get?_push_of_some _ x)⟩
end
/-- the tuple at a, each item in a new pair -/
def IteT (K : PySem.W.Frag) (a : Addr) : It :=
  ⟨fun i H => ∃ (xs : List V) (x : V), SqT K H a xs ∧ xs[i]? = some x, fun i H v H' => ∃ T x, v = .ref T ∧ H T = none ∧ H' = upd H T (.tup [.int (i : Nat), x]) ∧ ∀ xs, SqT K H a xs → xs[i]? = some x, fun i H => ∃ xs : List V, SqT K H a xs ∧ xs.length = i⟩
theorem turn_enumT {P : Program} {w : World} {K : PySem.W.Frag} {elts : List Expr} {kk : Nat} {tpos : Pos} (a e it : Addr) (hait : a ≠ it) (hae : a ≠ e) :
    Turn P w K (.Tuple elts kk tpos) (IteT K a) [e, it] e (fun i h => (∃ old, IsEnum h e it ((i : Nat) : Int) old) ∧ h.IsTupleIter it a i ∧ e ≠ it) where
  mem := by simp
  obj := fun i h st b hb => by
    obtain ⟨⟨old, he⟩, ⟨o, ho, hc, hd⟩, _⟩ := st
    have e' : b = e ∨ b = it := by simpa using hb
    rcases e' with z | z
    · rw [z]; exact ⟨_, he, fun v q => nomatch q⟩
    · rw [z]; exact ⟨o, ho, fun v q => by rw [hd] at q; cases q⟩
  keep := fun i h h' st k => let ⟨⟨old, he⟩, hi, hne⟩ := st; ⟨⟨old, k e (by simp) _ he⟩, hi.at fun o q => k it (by simp) o q, hne⟩
  item := by
    intro X hP hw hK hc i pins s σ H E I hf st hg
    subst hP hw hK
    obtain ⟨⟨old, he⟩, hit, hne⟩ := st
    obtain ⟨xs, x, hq, hx⟩ := hg
    obtain ⟨its, rv, p, hz⟩ := I.tuple hq
    obtain ⟨u, hu, ru⟩ := rv.get hx
    have hel : e < s.heap.objs.size := Heap.lt_size he
    have hil : it < s.heap.objs.size := by obtain ⟨_, q, _⟩ := hit; exact Heap.lt_size q
    have pT : s.heap.IsTuple a its.toArray := p
    have hlt : i < its.toArray.size := by
      have := (List.getElem?_eq_some_iff.mp hu).1
      simpa using this
    refine wpAny_pyNext_enum_itemD (Draws.tuple (A := X.A.in1) (I.ok.hd hc) it a hait its.toArray) he ⟨hit, pT⟩ hlt hne (by simp [Ne.symm hae, hne]) fun x' h' tk hx' ho hit' hT hsz hk => ?_
    have hux : x' = u := by
      have h1 : its[i]? = some x' := by simpa using hx'
      rw [hu] at h1
      exact (Option.some.inj h1).symm
    subst hux
    refine ⟨_, rfl, wpAny_letOwnedTupleGo_enum (s := { s with heap := h', toks := tk + 1 }) ho fun h'' he' sb => ?_⟩
    have hT2 : h''.get? s.heap.objs.size = some { cls := .type "tuple", data := .seq #[.int i tk, x'] } := (sb.2 _ (Nat.ne_of_gt hel)).trans hT
    have new : ObjOk X.prog X.w (upd H s.heap.objs.size (.tup [.int (i : Nat), x])) h'' s.heap.objs.size (.tup [.int (i : Nat), x]) :=
      ⟨by show 2 ≤ sizeLine; decide, [.int i tk, x'], .cons ⟨_, rfl⟩ (.cons ru .nil), ⟨_, hT2, rfl, _, rfl⟩⟩
    have I1 : Inv X pins σ (upd H s.heap.objs.size (.tup [.int (i : Nat), x])) { s with heap := h'', toks := tk + 1 } :=
      I.turnedNew (ch := [e, it]) (fun b ob hb q => (sb.2 b (fun z => hb (by simp [z]))).trans (hk b ob (fun z => hb (by simp [z])) (fun z => hb (by simp [z])) q)) hf (Nat.le_refl _) new
    refine ⟨.ref s.heap.objs.size, _, I1, rfl, ⟨_, x, rfl, I.hok.fresh (Nat.le_refl _), rfl, fun ys hy => ?_⟩, ⟨⟨x', ?_⟩, hit'.1.at fun o q => (sb.2 it (Ne.symm hne)).trans q, hne⟩, fun b hb => ?_⟩
    · rw [show ys = xs from I.tuple_inj hy hq]
      exact hx
    · have e1 : ((i + 1 : Nat) : Int) = (i : Int) + 1 := by omega
      rw [e1]; exact he'
    · have hb' : b < s.heap.objs.size := by
        have e' : b = e ∨ b = it := by simpa using hb
        rcases e' with z | z
        · rw [z]; exact hel
        · rw [z]; exact hil
      rw [upd_ne (Nat.ne_of_lt hb')]
      exact (hf b hb).1
  done := by
    intro X hP hw hK hc i pins s σ H E I hf st hg
    subst hP hw hK
    obtain ⟨⟨old, he⟩, hit, hne⟩ := st
    obtain ⟨xs, hq, hx⟩ := hg
    obtain ⟨its, rv, p, hz⟩ := I.tuple hq
    obtain ⟨f0, f1, f2, f3, f4, f5⟩ := hf it (by simp)
    have hl := rv.length
    have hz2 : i = its.toArray.size := by rw [List.size_toArray]; omega
    subst hz2
    exact wpAny_pyNext_enum_endD (Draws.tuple (A := X.A.in1) (I.ok.hd hc) it a hait its.toArray) he ⟨hit, show s.heap.IsTuple a its.toArray from p⟩ fun h' eb => ⟨rfl, I.turned (t' := s.toks) (fun b o hb q => eb b o hb q) f0 f1 f3 f4 f5⟩
  self := fun A i s Q E st h => let ⟨⟨_, he⟩, _⟩ := st; wpAny_pyIter_enum he h
def iEnumT (K : PySem.W.Frag) (ta : TA) : TI := fun σ H R => ta σ H fun vs H1 => ∃ a xs, vs = [.ref a] ∧ SqT K H1 a xs ∧ R (IteT K a) H1
theorem pi_enumT {X : Cx} {e : Expr} {ta : TA} {p pos tpos : Pos} {elts : List Expr} {kk : Nat} (hg : Gl X "enumerate") (hm : X.mg "enumerate" = none) (ha : PA X [e] ta) (hs : starEach [e] X.env = [(false, eval e X.env)] := by rfl) :
    PI X (.Tuple elts kk tpos) (.Call (.Name "enumerate" p) [e] [] pos) (iEnumT X.K ta) := by
  refine ⟨fun pins s σ H R I h => ?_⟩
  refine Call_ (ld_blt I hg hm boot_enumerate (PyProof.Rows.callWith_type1 (thn (ha.run pos pins s σ H _ I h) fun us s1 ⟨vs, H1, I1, r1, q1⟩ => ?_) hs rfl))
  obtain ⟨a, xs, ex, hq, q⟩ := q1
  subst ex
  cases r1 with
  | cons r rr =>
    cases rr
    cases r
    obtain ⟨its, rv, p', hz⟩ := I1.tuple hq
    have hlt : a < s1.heap.objs.size := by obtain ⟨_, ho, _⟩ := p'; exact Heap.lt_size ho
    refine call_enumT (show s1.heap.IsTuple a its.toArray from p') fun h' he hit hsz hk => wpAny_pyIter_enum he ?_
    have I2 : Inv X pins σ H1 { s1 with heap := h' } := I1.kept (t' := s1.toks) hk
    refine ⟨s1.heap.objs.size + 1, [s1.heap.objs.size + 1, s1.heap.objs.size], _, _, H1, rfl, I2, turn_enumT a (s1.heap.objs.size + 1) s1.heap.objs.size (Nat.ne_of_lt hlt) (Nat.ne_of_lt (Nat.lt_succ_of_lt hlt)), ⟨⟨.none, he⟩, hit, Nat.succ_ne_self _⟩, fun b hb => ?_, q⟩
    have e' : b = s1.heap.objs.size + 1 ∨ b = s1.heap.objs.size := by simpa using hb
    have hle : s1.heap.objs.size ≤ b := by
      rcases e' with z | z
      · rw [z]; exact Nat.le_add_right _ _
      · rw [z]; exact Nat.le_refl _
    exact I1.fpOk hle (I1.hok.fresh hle)
/-- a loop over enumerate of a tuple -/
theorem for_enumT {K : PySem.W.Frag} {a : Addr} {xs : List V} {g : TG} {tb : TS} {D : Ends} {σ : L2.St} {H : Hp} (Pv : Nat → L2.St → Hp → Prop) (h0 : Pv 0 σ H) (hq : ∀ i σ H, Pv i σ H → SqT K H a xs)
    (hs : ∀ (i : Nat) (x : V) (T : Addr) (σ : L2.St) (H : Hp), xs[i]? = some x → Pv i σ H → H T = none → g (.ref T) σ (upd H T (.tup [.int (i : Nat), x])) fun σ2 H2 => tb { D with nx := Pv (i + 1), ct := Pv (i + 1), bk := D.nx } σ2 H2) (hd : ∀ σ H, Pv xs.length σ H → D.nx σ H) :
    ∃ W : Nat → Nat → L2.St → Hp → Prop, (∃ m, W 0 m σ H) ∧ ∀ i m σ H, W i m σ H →
      ((IteT K a).stop i H ∧ D.nx σ H) ∨ ((IteT K a).go i H ∧ ∃ N : L2.St → Hp → Prop, (∀ σ' H', N σ' H' → ∃ m', m' < m ∧ W (i + 1) m' σ' H') ∧ ∀ v H', (IteT K a).yld i H v H' → g v σ H' fun σ2 H2 => tb { D with nx := N, ct := N, bk := D.nx } σ2 H2) := by
  refine ⟨fun i m σ H => m = xs.length - i ∧ i ≤ xs.length ∧ Pv i σ H, ⟨xs.length, rfl, Nat.zero_le _, h0⟩, ?_⟩
  rintro i m σ H ⟨rfl, hi, p⟩
  have qx := hq i σ H p
  by_cases hlt : i < xs.length
  · have hx : xs[i]? = some xs[i] := List.getElem?_eq_getElem hlt
    refine .inr ⟨⟨xs, _, qx, hx⟩, Pv (i + 1), fun σ' H' p' => ⟨xs.length - (i + 1), by omega, rfl, hlt, p'⟩, fun v H' y => ?_⟩
    obtain ⟨T, x', rfl, hT, rfl, f1⟩ := y
    exact hs i x' T σ H (f1 xs qx) p hT
  · have e : i = xs.length := by omega
    subst e
    exact .inl ⟨⟨xs, qx, rfl⟩, hd σ H p⟩
end EnumT

set_option Elab.async false
set_option linter.all false
set_option maxRecDepth 100000
set_option maxHeartbeats 2000000
/-! a comprehension over enumerate(t), t a tuple -/
namespace EnumT
open PySem PySem.Spec PyProof.Rows L2
theorem lc_enumT {K : PySem.W.Frag} {a : Addr} {xs : List V} {g : TG} {tt : TT} {te : TE} {vs : List Nat} {σ : L2.St} {H1 : Hp} {D : Addr} {Qd : Hp → Prop} (Pv : Nat → Hp → Prop) (h0 : Pv 0 (upd H1 D (.lst []))) (hq : ∀ i H, i ≤ xs.length → Pv i H → SqT K H a xs)
    (hs : ∀ (i : Nat) (x : V) (T : Addr) (H : Hp), xs[i]? = some x → Pv i H → H T = none → g (.ref T) (wipe σ vs) (upd H T (.tup [.int (i : Nat), x])) fun σ2 H2 => wipe σ2 vs = wipe σ vs ∧ tt σ2 H2 fun b H3 =>
      if b = true then te σ2 H3 fun y H4 => ∃ acc, H4 D = some (.lst acc) ∧ acc.length < sizeLine ∧ Pv (i + 1) (upd H4 D (.lst (acc ++ [y]))) else Pv (i + 1) H3) (hd : ∀ H, Pv xs.length H → Qd H) :
    ∃ W : Nat → Nat → Hp → Prop, (∃ m, W 0 m (upd H1 D (.lst []))) ∧ ∀ i m H, W i m H →
      ((IteT K a).stop i H ∧ Qd H) ∨ ((IteT K a).go i H ∧ ∃ Nx : Hp → Prop, (∀ H', Nx H' → ∃ m', m' < m ∧ W (i + 1) m' H') ∧ ∀ x H', (IteT K a).yld i H x H' → g x (wipe σ vs) H' fun σ2 H2 => wipe σ2 vs = wipe σ vs ∧ tt σ2 H2 fun b H3 =>
        if b = true then te σ2 H3 fun y H4 => ∃ acc, H4 D = some (.lst acc) ∧ acc.length < sizeLine ∧ Nx (upd H4 D (.lst (acc ++ [y]))) else Nx H3) := by
  refine ⟨fun i m H => m = xs.length - i ∧ i ≤ xs.length ∧ Pv i H, ⟨xs.length, by simp, Nat.zero_le _, h0⟩, ?_⟩
  rintro i m H ⟨rfl, hi, p⟩
  have qx := hq i H hi p
  by_cases hlt : i < xs.length
  · have hx : xs[i]? = some xs[i] := List.getElem?_eq_getElem hlt
    refine .inr ⟨⟨xs, _, qx, hx⟩, Pv (i + 1), fun H' p' => ⟨xs.length - (i + 1), by omega, rfl, hlt, p'⟩, fun v H' y => ?_⟩
    obtain ⟨T, x', rfl, hT, rfl, f1⟩ := y
    exact hs i x' T H (f1 xs qx) p hT
  · have e : i = xs.length := by omega
    subst e
    exact .inl ⟨⟨xs, qx, rfl⟩, hd H p⟩
end EnumT

set_option Elab.async false
set_option linter.all false
set_option maxRecDepth 100000
set_option maxHeartbeats 2000000
/-! the rules of OwnR, OwnL, over the facts of HookG -/
namespace OwnF
open PySem PySem.Spec PyProof.Rows L2 He SlX OwnR HookG
/-- what is asked of a class with slots -/
structure OC (K : PySem.W.Frag) (C : Addr) : Prop where
  scl : SCls K C
  sis : SIsi K C
  first : PySem.W.selfFirst K C = true
  ne : PySem.W.findIn K (.ref C) "__ne__" = some (some (.builtin "object.__ne__"))
  ntup : PySem.W.notFirst K C (.type "tuple") = true
  rmul : PySem.W.findIn K (.ref C) "__rmul__" = some none
  imul : PySem.W.findIn K (.type "int") "__mul__" = some (some (.builtin "int.__mul__"))
  irmul : PySem.W.findIn K (.type "int") "__rmul__" = some (some (.builtin "int.__rmul__"))
  isub : PySem.W.subIn K (.type "int") (.ref C) = some false
  kself : PySem.W.kitOne K (.ref C) (.ref C) = some true
  ktup : PySem.W.kitOne K (.type "tuple") (.ref C) = some false
  kint : PySem.W.kitOne K (.type "int") (.ref C) = some false
def ocB (K : PySem.W.Frag) (x : Str) : Bool := sclB K x && (sisB K x && (PySem.W.selfFirst K (ga K x) && (eqO (PySem.W.findIn K (.ref (ga K x)) "__ne__") (some (some (.builtin "object.__ne__"))) && (PySem.W.notFirst K (ga K x) (.type "tuple") && (eqO (PySem.W.findIn K (.ref (ga K x)) "__rmul__") (some none) && (eqO (PySem.W.findIn K (.type "int") "__mul__") (some (some (.builtin "int.__mul__"))) && (eqO (PySem.W.findIn K (.type "int") "__rmul__") (some (some (.builtin "int.__rmul__"))) && (dO (PySem.W.subIn K (.type "int") (.ref (ga K x))) (some false) && (dO (PySem.W.kitOne K (.ref (ga K x)) (.ref (ga K x))) (some true) && (dO (PySem.W.kitOne K (.type "tuple") (.ref (ga K x))) (some false) && dO (PySem.W.kitOne K (.type "int") (.ref (ga K x))) (some false)))))))))))
theorem ocB_ok {K : PySem.W.Frag} {x : Str} (h : ocB K x = true) : OC K (ga K x) := by
  obtain ⟨c1, c⟩ := ba h
  obtain ⟨c2, c⟩ := ba c
  obtain ⟨c3, c⟩ := ba c
  obtain ⟨c4, c⟩ := ba c
  obtain ⟨c5, c⟩ := ba c
  obtain ⟨c6, c⟩ := ba c
  obtain ⟨c7, c⟩ := ba c
  obtain ⟨c8, c⟩ := ba c
  obtain ⟨c9, c⟩ := ba c
  obtain ⟨c10, c⟩ := ba c
  obtain ⟨c11, c12⟩ := ba c
  exact ⟨sclB_ok c1, sisB_ok c2, c3, eqO_ok c4, c5, eqO_ok c6, eqO_ok c7, eqO_ok c8, dO_ok c9, dO_ok c10, dO_ok c11, dO_ok c12⟩
theorem raw0 {P : Program} {w : World} {K : PySem.W.Frag} {mg : Str → Option Value} {base : Heap} {CX : CXT} {k : Nat} {f : Addr} {sp : Sp} {fd : FuncData} {ps : List Str} (F : FnOk P w K mg base CX k f fd ps sp) (hb : Binds K fd ps []) : FnR P w K mg base CX k f sp :=
  (F.raw hb .nil).imp fun vs H Q E h => by rw [List.append_nil]; exact h
section
variable {X : Cx} {C g gl pp : Addr} {n : Nat} {sp spl : Sp} {fd fdl : FuncData} {ps psl : List Str} {f : Str} {e : Expr} {pos : Pos} {ta : TE}
theorem hx0 : ∀ (H : Hp) (s : Shared) (e : Value) (s' : Shared), CX0 X.stack H s E0 e s' → False := fun _ _ _ _ h => h
theorem pe_prp (he : PE X e ta) (c : OC X.K C) (p : Pr X.K C f pp g) (F : FnOk X.prog X.w X.K X.mg X.base CX0 n g fd ps sp) (hb : Binds X.K fd ps []) (hr : Room (n + 1) X.A) (hb2 : attributeBase e f X.env (eval e X.env) = eval e X.env := by rfl) : PE X (.Attribute e f pos) (tPropSl C sp E0 ta) :=
  pe_propSl he c.scl p.at_ p.get p.tk p.rc (raw0 F hb) hr hx0 hb2
theorem op_neF (c : OC X.K C) (m : Mt X.K C "__eq__" g) (F : FnOk X.prog X.w X.K X.mg X.base CX0 n g fd ps sp) (hb : Binds X.K fd ps []) (hr : Room (n + 1) X.A) : OpR X (compareOp .NotEq) (rNeO X C sp E0) := op_neO c.sis.cm c.ne m.at_ m.fn (raw0 F hb) hr pass0
theorem iter_anyT {prog : Program} {w : World} {A : Around} {E : Value → Shared → Prop} {s : Shared} {l : Addr} {items : Array Value} {Q : Value → Shared → Prop} (hl : s.heap.IsTuple l items)
    (h : ∀ s₂ : Shared, s₂ = { s with heap := s.heap.push { cls := .type "tuple_iterator", data := .fields #[.ref l, .int 0 0] } } →
      (s₂.heap.IsTupleIter s.heap.objs.size l 0 ∧ s₂.heap.IsTuple l items) → l ≠ s.heap.objs.size → Q (.ref s.heap.objs.size) s₂) : wpAny (model prog w) A (pyIter (.ref l)) Q E s := by
  have hlt : l < s.heap.objs.size := by obtain ⟨_, e, _⟩ := hl; exact Heap.lt_size e
  exact wpAny_pyIter_tuple hl (h _ rfl ⟨⟨_, Heap.get?_push_size _ rfl, rfl, rfl⟩, hl.push _⟩ (Nat.ne_of_lt hlt))
theorem truth_ints {prog : Program} {w : World} {A : Around} {ns : List Int} {its : List Value} (r : Vals (ns.map V.int) its) :
    TruthOf prog w A (fun i v => its.toArray[i]? = some v) (fun i => ns.getD i 0 != 0) := fun i v s Q E hv hq => by
  have hv' : its[i]? = some v := by simpa using hv
  have hlen := r.length
  rw [List.length_map] at hlen
  have hlt : i < ns.length := by
    have := (List.getElem?_eq_some_iff.mp hv').1
    omega
  obtain ⟨u, hu, t, ru⟩ := r.get (show (ns.map V.int)[i]? = some (.int ns[i]) by rw [List.getElem?_map, List.getElem?_eq_getElem hlt]; rfl)
  rw [hv'] at hu
  cases hu
  subst ru
  have hg : ns.getD i 0 = ns[i] := by rw [List.getD_eq_getElem?_getD, List.getElem?_eq_getElem hlt] <;> rfl
  have hq' : Q (ns.getD i 0 != 0) s := hq
  rw [hg] at hq'
  exact truthy_int hq'
theorem any_rangeI : ∀ ns : List Int, (List.range ns.length).any (fun i => ns.getD i 0 != 0) = ns.any (· != 0)
  | [] => rfl
  | b :: bs => by
    rw [List.length_cons, List.range_succ_eq_map, List.any_cons, List.any_map, List.any_cons, ← any_rangeI bs]
    all_goals rfl
/-- any of a tuple of ints -/
def rAnyTI (K : PySem.W.Frag) : List V → Hp → VK → Prop := fun vs H Q => ∃ (a : Addr) (ns : List Int), vs = [V.ref a] ∧ SqT K H a (ns.map V.int) ∧ Q (.bl (ns.any (· != 0))) H
theorem cr_anyTI (hc : X.calm = true) : CallR X (.builtin "any") (rAnyTI X.K) := by
  intro pins s σ H vs us Q I r h
  obtain ⟨a, ns, rfl, hs, q⟩ := h
  obtain ⟨its, rv, hl, _⟩ := I.tuple hs
  rw [Vals.ref1 r]
  have hlen := rv.length
  rw [List.length_map] at hlen
  refine call_any_walk (iter_anyT (show s.heap.IsTuple a its.toArray from hl) fun s₂ e2 st hne => ?_)
  subst e2
  refine ⟨_, _, _, _, _, _, _, rfl, Walks.tuple (A := X.A.in1) (I.ok.hd hc) _ a hne its.toArray, st, truth_ints rv, fun h' tk hk => ?_⟩
  refine ⟨.bl _, H, I.kept fun b o eo => hk b o (fun hmem => ?_) (Heap.get?_push_of_some _ eo), ?_, q⟩
  · rcases List.mem_cons.mp hmem with e1 | hmem
    · exact absurd (e1 ▸ Heap.lt_size eo) (Nat.lt_irrefl _)
    · cases hmem
  · show Value.bool _ = Value.bool _
    rw [← any_rangeI, List.size_toArray, ← hlen]
/-- isinstance(x, C): x of a plain type, or an instance -/
theorem call_isiF (C : Addr) : CallR X (.builtin "isinstance") (fun xs H Q => rIsi X.K xs H Q ∨ rIsiSl X.K (.ref C) xs H Q) := call_isi.or (call_isiSl (.ref C))
end
end OwnF

set_option Elab.async false
set_option linter.all false
set_option maxRecDepth 100000
set_option maxHeartbeats 2000000
/-! a method of an instance with slots -/
namespace OwnF
open PySem PySem.Spec PyProof.Rows L2 He SlX OwnR HookG
section
variable {X : Cx} {C g : Addr} {n : Nat} {sp : Sp} {fd : FuncData} {ps : List Str} {o e : Expr} {es : List Expr} {x : Str} {pos apos : Pos} {ta : TE} {t : TA}
end
end OwnF

set_option Elab.async false
set_option linter.all false
set_option maxRecDepth 100000
set_option maxHeartbeats 2000000
/-! classmethods, classes in local names, xs[i] op= e -/
namespace OwnC
open PySem PySem.Spec PyProof.Rows L2 He SlX OwnR HookG OwnF
/-- C.m is a classmethod: its record at p, its def at g -/
structure Cm (K : PySem.W.Frag) (C : Addr) (m : Str) (p g : Addr) : Prop where
  rd : ClX.CRead K C (.type "type")
  cm : ClX.CMet K C (.type "type") m p g
section
variable {X : Cx} {C p g f : Addr} {n i : Nat} {sp : Sp} {fd : FuncData} {ps : List Str} {o e : Expr} {es : List Expr} {m x : Str} {pos apos pp : Pos} {ta : TE} {t : TA}
/-- xs[i], read for xs[i] op= e -/
def rGetL (K : PySem.W.Frag) : R2 := fun x y H Q => ∃ a xs j v, x = .ref a ∧ y = .int ((j : Nat) : Int) ∧ SqL K H a xs ∧ xs[j]? = some v ∧ Q v H
theorem get_list : PGet X (rGetL X.K) := by
  intro pins s σ H x y v u Q I rx ry h
  obtain ⟨a, xs, j, z, rfl, rfl, hq, he, q⟩ := h
  cases rx
  obtain ⟨t, rfl⟩ := ry
  obtain ⟨its, r, pl, hz⟩ := I.list hq
  obtain ⟨w, ew, rw'⟩ := r.get he
  have hl := r.length
  have hn := line63
  have hj : j < xs.length := (List.getElem?_eq_some_iff.mp he).1
  exact wpAny_getItem_list pl.isList (by omega) (by omega) (x := w) (by rw [Int.toNat_natCast]; simpa using ew) ⟨z, H, I, rw', q⟩
end
end OwnC

set_option Elab.async false
set_option linter.all false
set_option maxRecDepth 100000
set_option maxHeartbeats 2000000
/-! sequences that may be a list or a tuple: len, index, enumerate -/
namespace SeqE
open PySem PySem.Spec PyProof.Rows L2
/-- at a a list or a tuple with these items -/
def Sq (H : Hp) (a : Addr) (xs : List V) : Prop := H a = some (.tup xs) ∨ H a = some (.lst xs)
theorem Sq.same {H H' : Hp} {a : Addr} {xs : List V} (h : Sq H a xs) (s : Same H H') : Sq H' a xs := h.elim (fun e => .inl (s _ _ e)) fun e => .inr (s _ _ e)
theorem Sq.upd {H : Hp} {a p : Addr} {o : HO} {xs : List V} (h : Sq H a xs) (hp : H p = none) : Sq (upd H p o) a xs := by
  refine h.elim (fun e => .inl ?_) fun e => .inr ?_ <;> rw [upd_ne (ne_of_none e hp)] <;> exact e
end SeqE

set_option Elab.async false
set_option linter.all false
set_option maxRecDepth 100000
set_option maxHeartbeats 4000000
namespace K40
open PySem PySem.Spec PyProof.Rows L2 SlX OwnR OwnF
theorem hu64 {k : Nat} {A : Around} (hr : Room k A) : A.units + 64 < cLine := hr.units
theorem same_upd0 {H : Hp} {p : Addr} {o : HO} (h : H p = none) : Same H (upd H p o) := fun b x e => by
  rw [upd_ne (ne_of_none e h)]
  exact e
def topS (i : Nat) : Stmt := PySem.Challenge.pw_sourceforms_k40_whole_told_members.main.body.getD i (.Pass ⟨0, 0, 0, 0⟩)
abbrev FnM (K : PySem.W.Frag) (x q : Str) (st : Stmt) (f : Addr) (fd : FuncData) : Prop := FunD K x q (defArgs st) (defBody st) (defScope st) [] [] f fd
abbrev FnP (K : PySem.W.Frag) (x : Str) (st : Stmt) (f : Addr) (fd : FuncData) : Prop := FunD K x x (defArgs st) (defBody st) (defScope st) [] [] f fd
abbrev s_is_whole : Stmt := topS 13
abbrev N_is_whole : List Str := ["value"]
theorem sc_is_whole : FnScope N_is_whole ["value"] (defScope s_is_whole) := ⟨rfl, rfl, rfl, by decide +kernel, rfl, by decide +kernel, by decide +kernel⟩
abbrev s_is_short : Stmt := topS 14
abbrev N_is_short : List Str := ["value"]
theorem sc_is_short : FnScope N_is_short ["value"] (defScope s_is_short) := ⟨rfl, rfl, rfl, by decide +kernel, rfl, by decide +kernel, by decide +kernel⟩
abbrev s_is_from : Stmt := topS 15
abbrev N_is_from : List Str := ["value", "least", "most"]
theorem sc_is_from : FnScope N_is_from ["value", "least", "most"] (defScope s_is_from) := ⟨rfl, rfl, rfl, by decide +kernel, rfl, by decide +kernel, by decide +kernel⟩
abbrev s_are_short : Stmt := topS 16
abbrev N_are_short : List Str := ["value", "entry"]
theorem sc_are_short : FnScope N_are_short ["value"] (defScope s_are_short) := ⟨rfl, rfl, rfl, by decide +kernel, rfl, by decide +kernel, by decide +kernel⟩
abbrev s_lots_of : Stmt := topS 19
abbrev N_lots_of : List Str := ["many", "few", "found", "at"]
theorem sc_lots_of : FnScope N_lots_of ["many", "few"] (defScope s_lots_of) := ⟨rfl, rfl, rfl, by decide +kernel, rfl, by decide +kernel, by decide +kernel⟩
abbrev s_is_zero_in : Stmt := topS 30
abbrev N_is_zero_in : List Str := ["entries"]
theorem sc_is_zero_in : FnScope N_is_zero_in ["entries"] (defScope s_is_zero_in) := ⟨rfl, rfl, rfl, by decide +kernel, rfl, by decide +kernel, by decide +kernel⟩
abbrev s_are_entries : Stmt := topS 32
abbrev N_are_entries : List Str := ["value"]
theorem sc_are_entries : FnScope N_are_entries ["value"] (defScope s_are_entries) := ⟨rfl, rfl, rfl, by decide +kernel, rfl, by decide +kernel, by decide +kernel⟩
abbrev s_form_of : Stmt := topS 34
abbrev N_form_of : List Str := ["entries"]
theorem sc_form_of : FnScope N_form_of ["entries"] (defScope s_form_of) := ⟨rfl, rfl, rfl, by decide +kernel, rfl, by decide +kernel, by decide +kernel⟩
abbrev s_require_form : Stmt := topS 35
abbrev N_require_form : List Str := ["value"]
theorem sc_require_form : FnScope N_require_form ["value"] (defScope s_require_form) := ⟨rfl, rfl, rfl, by decide +kernel, rfl, by decide +kernel, by decide +kernel⟩
abbrev s_laying_slope : Stmt := topS 43
abbrev N_laying_slope : List Str := ["entries", "by_y", "at", "entry"]
theorem sc_laying_slope : FnScope N_laying_slope ["entries", "by_y"] (defScope s_laying_slope) := ⟨rfl, rfl, rfl, by decide +kernel, rfl, by decide +kernel, by decide +kernel⟩
abbrev s_laying_slopes : Stmt := topS 44
abbrev N_laying_slopes : List Str := ["entries", "times", "found", "turn", "one"]
theorem sc_laying_slopes : FnScope N_laying_slopes ["entries", "times"] (defScope s_laying_slopes) := ⟨rfl, rfl, rfl, by decide +kernel, rfl, by decide +kernel, by decide +kernel⟩
abbrev s_add_product : Stmt := topS 45
abbrev N_add_product : List Str := ["found", "one", "other", "factor", "at", "first", "place", "second"]
theorem sc_add_product : FnScope N_add_product ["found", "one", "other", "factor"] (defScope s_add_product) := ⟨rfl, rfl, rfl, by decide +kernel, rfl, by decide +kernel, by decide +kernel⟩
abbrev s_laid_in : Stmt := topS 46
abbrev N_laid_in : List Str := ["one", "other", "times", "found", "first", "second", "at"]
theorem sc_laid_in : FnScope N_laid_in ["one", "other", "times"] (defScope s_laid_in) := ⟨rfl, rfl, rfl, by decide +kernel, rfl, by decide +kernel, by decide +kernel⟩
abbrev s_is_row_triple : Stmt := topS 47
abbrev N_is_row_triple : List Str := ["value", "most"]
theorem sc_is_row_triple : FnScope N_is_row_triple ["value", "most"] (defScope s_is_row_triple) := ⟨rfl, rfl, rfl, by decide +kernel, rfl, by decide +kernel, by decide +kernel⟩
abbrev s_is_row_list : Stmt := topS 48
abbrev N_is_row_list : List Str := ["value", "sizes", "at", "triple"]
theorem sc_is_row_list : FnScope N_is_row_list ["value"] (defScope s_is_row_list) := ⟨rfl, rfl, rfl, by decide +kernel, rfl, by decide +kernel, by decide +kernel⟩
abbrev s_require_row_list : Stmt := topS 49
abbrev N_require_row_list : List Str := ["value"]
theorem sc_require_row_list : FnScope N_require_row_list ["value"] (defScope s_require_row_list) := ⟨rfl, rfl, rfl, by decide +kernel, rfl, by decide +kernel, by decide +kernel⟩
abbrev s_run_in : Stmt := topS 50
abbrev N_run_in : List Str := ["rows", "entries", "found", "index", "first", "second", "times", "one", "other"]
theorem sc_run_in : FnScope N_run_in ["rows", "entries"] (defScope s_run_in) := ⟨rfl, rfl, rfl, by decide +kernel, rfl, by decide +kernel, by decide +kernel⟩
abbrev s_run_rows : Stmt := topS 51
abbrev N_run_rows : List Str := ["rows", "form", "entries"]
theorem sc_run_rows : FnScope N_run_rows ["rows", "form"] (defScope s_run_rows) := ⟨rfl, rfl, rfl, by decide +kernel, rfl, by decide +kernel, by decide +kernel⟩
abbrev s_marks_of : Stmt := topS 54
abbrev N_marks_of : List Str := ["degree", "found", "one", "other", "times", "first", "second"]
theorem sc_marks_of : FnScope N_marks_of ["degree"] (defScope s_marks_of) := ⟨rfl, rfl, rfl, by decide +kernel, rfl, by decide +kernel, by decide +kernel⟩
abbrev s_require_told : Stmt := topS 55
abbrev N_require_told : List Str := ["degree"]
theorem sc_require_told : FnScope N_require_told ["degree"] (defScope s_require_told) := ⟨rfl, rfl, rfl, by decide +kernel, rfl, by decide +kernel, by decide +kernel⟩
abbrev s_require_told_form : Stmt := topS 56
abbrev N_require_told_form : List Str := ["form"]
theorem sc_require_told_form : FnScope N_require_told_form ["form"] (defScope s_require_told_form) := ⟨rfl, rfl, rfl, by decide +kernel, rfl, by decide +kernel, by decide +kernel⟩
abbrev s_told_rows : Stmt := topS 57
abbrev N_told_rows : List Str := ["degree"]
theorem sc_told_rows : FnScope N_told_rows ["degree"] (defScope s_told_rows) := ⟨rfl, rfl, rfl, by decide +kernel, rfl, by decide +kernel, by decide +kernel⟩
abbrev s_told_at : Stmt := topS 58
abbrev N_told_at : List Str := ["form"]
theorem sc_told_at : FnScope N_told_at ["form"] (defScope s_told_at) := ⟨rfl, rfl, rfl, by decide +kernel, rfl, by decide +kernel, by decide +kernel⟩
abbrev s_member_marks : Stmt := topS 59
abbrev N_member_marks : List Str := ["degree"]
theorem sc_member_marks : FnScope N_member_marks ["degree"] (defScope s_member_marks) := ⟨rfl, rfl, rfl, by decide +kernel, rfl, by decide +kernel, by decide +kernel⟩
abbrev s_law_dice : Stmt := topS 61
abbrev N_law_dice : List Str := ["_law_script", "_law_spot", "_law_cell", "_law_left"]
theorem sc_law_dice : FnScope N_law_dice ["_law_script", "_law_spot"] (defScope s_law_dice) := ⟨rfl, rfl, rfl, by decide +kernel, rfl, by decide +kernel, by decide +kernel⟩
abbrev s_law_roll : Stmt := topS 62
abbrev N_law_roll : List Str := ["_law_dice_here", "_law_total", "_law_found", "_law_one", "_law_two"]
theorem sc_law_roll : FnScope N_law_roll ["_law_dice_here", "_law_total"] (defScope s_law_roll) := ⟨rfl, rfl, rfl, by decide +kernel, rfl, by decide +kernel, by decide +kernel⟩
abbrev s_law_near : Stmt := topS 63
abbrev N_law_near : List Str := ["_law_dice_here", "_law_most"]
theorem sc_law_near : FnScope N_law_near ["_law_dice_here", "_law_most"] (defScope s_law_near) := ⟨rfl, rfl, rfl, by decide +kernel, rfl, by decide +kernel, by decide +kernel⟩
abbrev s_law_raised : Stmt := topS 64
abbrev N_law_raised : List Str := ["_law_number", "_law_times", "_law_found", "_law_turn"]
theorem sc_law_raised : FnScope N_law_raised ["_law_number", "_law_times"] (defScope s_law_raised) := ⟨rfl, rfl, rfl, by decide +kernel, rfl, by decide +kernel, by decide +kernel⟩
abbrev s_law_choose : Stmt := topS 65
abbrev N_law_choose : List Str := ["_law_many", "_law_few", "_law_found", "_law_at"]
theorem sc_law_choose : FnScope N_law_choose ["_law_many", "_law_few"] (defScope s_law_choose) := ⟨rfl, rfl, rfl, by decide +kernel, rfl, by decide +kernel, by decide +kernel⟩
abbrev s_law_plus : Stmt := topS 66
abbrev N_law_plus : List Str := ["_law_one", "_law_other", "_law_first", "_law_second"]
theorem sc_law_plus : FnScope N_law_plus ["_law_one", "_law_other"] (defScope s_law_plus) := ⟨rfl, rfl, rfl, by decide +kernel, rfl, by decide +kernel, by decide +kernel⟩
abbrev s_law_scaled : Stmt := topS 67
abbrev N_law_scaled : List Str := ["_law_form", "_law_factor", "_law_entry"]
theorem sc_law_scaled : FnScope N_law_scaled ["_law_form", "_law_factor"] (defScope s_law_scaled) := ⟨rfl, rfl, rfl, by decide +kernel, rfl, by decide +kernel, by decide +kernel⟩
abbrev s_law_product : Stmt := topS 68
abbrev N_law_product : List Str := ["_law_one", "_law_other", "_law_found", "_law_place", "_law_at", "_law_first", "_law_second"]
theorem sc_law_product : FnScope N_law_product ["_law_one", "_law_other"] (defScope s_law_product) := ⟨rfl, rfl, rfl, by decide +kernel, rfl, by decide +kernel, by decide +kernel⟩
abbrev s_law_power : Stmt := topS 69
abbrev N_law_power : List Str := ["_law_pair", "_law_times", "_law_found", "_law_turn"]
theorem sc_law_power : FnScope N_law_power ["_law_pair", "_law_times"] (defScope s_law_power) := ⟨rfl, rfl, rfl, by decide +kernel, rfl, by decide +kernel, by decide +kernel⟩
abbrev s_law_by_x : Stmt := topS 70
abbrev N_law_by_x : List Str := ["_law_form", "_law_at", "_law_entry"]
theorem sc_law_by_x : FnScope N_law_by_x ["_law_form"] (defScope s_law_by_x) := ⟨rfl, rfl, rfl, by decide +kernel, rfl, by decide +kernel, by decide +kernel⟩
abbrev s_law_by_y : Stmt := topS 71
abbrev N_law_by_y : List Str := ["_law_form", "_law_at", "_law_entry"]
theorem sc_law_by_y : FnScope N_law_by_y ["_law_form"] (defScope s_law_by_y) := ⟨rfl, rfl, rfl, by decide +kernel, rfl, by decide +kernel, by decide +kernel⟩
abbrev s_law_derived : Stmt := topS 72
abbrev N_law_derived : List Str := ["_law_form", "_law_one", "_law_other", "_law_turn"]
theorem sc_law_derived : FnScope N_law_derived ["_law_form", "_law_one", "_law_other"] (defScope s_law_derived) := ⟨rfl, rfl, rfl, by decide +kernel, rfl, by decide +kernel, by decide +kernel⟩
abbrev s_law_laid : Stmt := topS 73
abbrev N_law_laid : List Str := ["_law_one", "_law_other", "_law_times", "_law_found", "_law_place", "_law_at", "_law_piece", "_law_number"]
theorem sc_law_laid : FnScope N_law_laid ["_law_one", "_law_other", "_law_times"] (defScope s_law_laid) := ⟨rfl, rfl, rfl, by decide +kernel, rfl, by decide +kernel, by decide +kernel⟩
abbrev s_law_changed : Stmt := topS 74
abbrev N_law_changed : List Str := ["_law_form", "_law_table_here", "_law_found", "_law_entry", "_law_at", "_law_piece"]
theorem sc_law_changed : FnScope N_law_changed ["_law_form", "_law_table_here"] (defScope s_law_changed) := ⟨rfl, rfl, rfl, by decide +kernel, rfl, by decide +kernel, by decide +kernel⟩
abbrev s_law_table : Stmt := topS 75
abbrev N_law_table : List Str := ["_law_dice_here", "_law_most", "_law_found", "_law_row"]
theorem sc_law_table : FnScope N_law_table ["_law_dice_here", "_law_most"] (defScope s_law_table) := ⟨rfl, rfl, rfl, by decide +kernel, rfl, by decide +kernel, by decide +kernel⟩
abbrev s_law_det : Stmt := topS 76
abbrev N_law_det : List Str := ["_law_table_here"]
theorem sc_law_det : FnScope N_law_det ["_law_table_here"] (defScope s_law_det) := ⟨rfl, rfl, rfl, by decide +kernel, rfl, by decide +kernel, by decide +kernel⟩
abbrev s_law_told_row_list : Stmt := topS 77
abbrev N_law_told_row_list : List Str := ["_law_degree", "_law_found"]
theorem sc_law_told_row_list : FnScope N_law_told_row_list ["_law_degree"] (defScope s_law_told_row_list) := ⟨rfl, rfl, rfl, by decide +kernel, rfl, by decide +kernel, by decide +kernel⟩
abbrev s_law_marks_of : Stmt := topS 78
abbrev N_law_marks_of : List Str := ["_law_degree", "_law_found", "_law_i", "_law_j", "_law_k", "_law_one", "_law_other"]
theorem sc_law_marks_of : FnScope N_law_marks_of ["_law_degree"] (defScope s_law_marks_of) := ⟨rfl, rfl, rfl, by decide +kernel, rfl, by decide +kernel, by decide +kernel⟩
abbrev s_law_members_of : Stmt := topS 79
abbrev N_law_members_of : List Str := ["_law_entries", "_law_found", "_law_i", "_law_j", "_law_k"]
theorem sc_law_members_of : FnScope N_law_members_of ["_law_entries"] (defScope s_law_members_of) := ⟨rfl, rfl, rfl, by decide +kernel, rfl, by decide +kernel, by decide +kernel⟩
abbrev s_law_right : Stmt := topS 80
abbrev N_law_right : List Str := ["_law_dice_here", "_law_degree", "_law_entries", "_law_place", "_law_told", "_law_due", "_law_member", "_law_marks", "_law_size", "_law_order", "_law_table_here", "_law_det_here", "_law_later", "_law_at", "_law_factor"]
theorem sc_law_right : FnScope N_law_right ["_law_dice_here", "_law_degree"] (defScope s_law_right) := ⟨rfl, rfl, rfl, by decide +kernel, rfl, by decide +kernel, by decide +kernel⟩
abbrev s_law : Stmt := topS 81
abbrev N_law : List Str := ["_law_script", "_law_spot", "_law_dice_here", "_law_degree", "_law_some", "_law_at", "_law_mark", "_law_told", "_law_six"]
theorem sc_law : FnScope N_law ["_law_script"] (defScope s_law) := ⟨rfl, rfl, rfl, by decide +kernel, rfl, by decide +kernel, by decide +kernel⟩
abbrev s_Told_init : Stmt := inClass (topS 31) 1
abbrev N_Told_init : List Str := ["self", "row"]
theorem sc_Told_init : FnScope N_Told_init ["self", "row"] (defScope s_Told_init) := ⟨rfl, rfl, rfl, by decide +kernel, rfl, by decide +kernel, by decide +kernel⟩
abbrev s_Form_init : Stmt := inClass (topS 33) 1
abbrev N_Form_init : List Str := ["self", "entries"]
theorem sc_Form_init : FnScope N_Form_init ["self", "entries"] (defScope s_Form_init) := ⟨rfl, rfl, rfl, by decide +kernel, rfl, by decide +kernel, by decide +kernel⟩
abbrev s_Form_entries : Stmt := inClass (topS 33) 4
abbrev N_Form_entries : List Str := ["self"]
theorem sc_Form_entries : FnScope N_Form_entries ["self"] (defScope s_Form_entries) := ⟨rfl, rfl, rfl, by decide +kernel, rfl, by decide +kernel, by decide +kernel⟩
abbrev s_Form_degree : Stmt := inClass (topS 33) 5
abbrev N_Form_degree : List Str := ["self"]
theorem sc_Form_degree : FnScope N_Form_degree ["self"] (defScope s_Form_degree) := ⟨rfl, rfl, rfl, by decide +kernel, rfl, by decide +kernel, by decide +kernel⟩
abbrev s_Form_is_zero : Stmt := inClass (topS 33) 6
abbrev N_Form_is_zero : List Str := ["self"]
theorem sc_Form_is_zero : FnScope N_Form_is_zero ["self"] (defScope s_Form_is_zero) := ⟨rfl, rfl, rfl, by decide +kernel, rfl, by decide +kernel, by decide +kernel⟩
abbrev s_Form_eq : Stmt := inClass (topS 33) 18
abbrev N_Form_eq : List Str := ["self", "other"]
theorem sc_Form_eq : FnScope N_Form_eq ["self", "other"] (defScope s_Form_eq) := ⟨rfl, rfl, rfl, by decide +kernel, rfl, by decide +kernel, by decide +kernel⟩
/-- where the defs stand, what the names of the module are -/
def v_TOLD : List (Int × List (List Int)) := [(5, [[0, 0, 4], [0, 0, 2], [0, 1, 2], [0, 1, 1], [0, 2, 1], [0, 4, 5], [0, 3, 2], [0, 3, 1], [0, 7, 4], [0, 7, 3], [0, 7, 1], [0, 10, 3], [0, 9, 1], [0, 13, 4], [0, 12, 1], [0, 15, 5], [0, 15, 4], [0, 17, 2]]), (6, [[0, 0, 6], [0, 0, 4], [0, 0, 2], [0, 2, 4], [0, 2, 2], [0, 2, 1], [0, 3, 1], [0, 5, 6], [0, 4, 2], [0, 4, 1], [0, 5, 1], [0, 9, 4], [0, 9, 3], [0, 9, 1], [2, 9, 4], [0, 12, 1], [0, 13, 2], [0, 16, 5], [0, 16, 4]])]
structure Facts (K : PySem.W.Frag) (mg : Str → Option Value) where
  f_is_whole : Addr
  fd_is_whole : FuncData
  F_is_whole : FnP K "is_whole" s_is_whole f_is_whole fd_is_whole
  g_is_whole : mg "is_whole" = some (.ref f_is_whole)
  b_is_whole : Binds K fd_is_whole ["value"] []
  f_is_short : Addr
  fd_is_short : FuncData
  F_is_short : FnP K "is_short" s_is_short f_is_short fd_is_short
  g_is_short : mg "is_short" = some (.ref f_is_short)
  b_is_short : Binds K fd_is_short ["value"] []
  f_is_from : Addr
  fd_is_from : FuncData
  F_is_from : FnP K "is_from" s_is_from f_is_from fd_is_from
  g_is_from : mg "is_from" = some (.ref f_is_from)
  b_is_from : Binds K fd_is_from ["value", "least", "most"] []
  f_are_short : Addr
  fd_are_short : FuncData
  F_are_short : FnP K "are_short" s_are_short f_are_short fd_are_short
  g_are_short : mg "are_short" = some (.ref f_are_short)
  b_are_short : Binds K fd_are_short ["value"] []
  f_lots_of : Addr
  fd_lots_of : FuncData
  F_lots_of : FnP K "lots_of" s_lots_of f_lots_of fd_lots_of
  g_lots_of : mg "lots_of" = some (.ref f_lots_of)
  b_lots_of : Binds K fd_lots_of ["many", "few"] []
  f_is_zero_in : Addr
  fd_is_zero_in : FuncData
  F_is_zero_in : FnP K "is_zero_in" s_is_zero_in f_is_zero_in fd_is_zero_in
  g_is_zero_in : mg "is_zero_in" = some (.ref f_is_zero_in)
  b_is_zero_in : Binds K fd_is_zero_in ["entries"] []
  f_are_entries : Addr
  fd_are_entries : FuncData
  F_are_entries : FnP K "are_entries" s_are_entries f_are_entries fd_are_entries
  g_are_entries : mg "are_entries" = some (.ref f_are_entries)
  b_are_entries : Binds K fd_are_entries ["value"] []
  f_form_of : Addr
  fd_form_of : FuncData
  F_form_of : FnP K "form_of" s_form_of f_form_of fd_form_of
  g_form_of : mg "form_of" = some (.ref f_form_of)
  b_form_of : Binds K fd_form_of ["entries"] []
  f_require_form : Addr
  fd_require_form : FuncData
  F_require_form : FnP K "require_form" s_require_form f_require_form fd_require_form
  g_require_form : mg "require_form" = some (.ref f_require_form)
  b_require_form : Binds K fd_require_form ["value"] []
  f_laying_slope : Addr
  fd_laying_slope : FuncData
  F_laying_slope : FnP K "laying_slope" s_laying_slope f_laying_slope fd_laying_slope
  g_laying_slope : mg "laying_slope" = some (.ref f_laying_slope)
  b_laying_slope : Binds K fd_laying_slope ["entries", "by_y"] []
  f_laying_slopes : Addr
  fd_laying_slopes : FuncData
  F_laying_slopes : FnP K "laying_slopes" s_laying_slopes f_laying_slopes fd_laying_slopes
  g_laying_slopes : mg "laying_slopes" = some (.ref f_laying_slopes)
  b_laying_slopes : Binds K fd_laying_slopes ["entries", "times"] []
  f_add_product : Addr
  fd_add_product : FuncData
  F_add_product : FnP K "add_product" s_add_product f_add_product fd_add_product
  g_add_product : mg "add_product" = some (.ref f_add_product)
  b_add_product : Binds K fd_add_product ["found", "one", "other", "factor"] []
  f_laid_in : Addr
  fd_laid_in : FuncData
  F_laid_in : FnP K "laid_in" s_laid_in f_laid_in fd_laid_in
  g_laid_in : mg "laid_in" = some (.ref f_laid_in)
  b_laid_in : Binds K fd_laid_in ["one", "other", "times"] []
  f_is_row_triple : Addr
  fd_is_row_triple : FuncData
  F_is_row_triple : FnP K "is_row_triple" s_is_row_triple f_is_row_triple fd_is_row_triple
  g_is_row_triple : mg "is_row_triple" = some (.ref f_is_row_triple)
  b_is_row_triple : Binds K fd_is_row_triple ["value", "most"] []
  f_is_row_list : Addr
  fd_is_row_list : FuncData
  F_is_row_list : FnP K "is_row_list" s_is_row_list f_is_row_list fd_is_row_list
  g_is_row_list : mg "is_row_list" = some (.ref f_is_row_list)
  b_is_row_list : Binds K fd_is_row_list ["value"] []
  f_require_row_list : Addr
  fd_require_row_list : FuncData
  F_require_row_list : FnP K "require_row_list" s_require_row_list f_require_row_list fd_require_row_list
  g_require_row_list : mg "require_row_list" = some (.ref f_require_row_list)
  b_require_row_list : Binds K fd_require_row_list ["value"] []
  f_run_in : Addr
  fd_run_in : FuncData
  F_run_in : FnP K "run_in" s_run_in f_run_in fd_run_in
  g_run_in : mg "run_in" = some (.ref f_run_in)
  b_run_in : Binds K fd_run_in ["rows", "entries"] []
  f_run_rows : Addr
  fd_run_rows : FuncData
  F_run_rows : FnP K "run_rows" s_run_rows f_run_rows fd_run_rows
  g_run_rows : mg "run_rows" = some (.ref f_run_rows)
  b_run_rows : Binds K fd_run_rows ["rows", "form"] []
  f_marks_of : Addr
  fd_marks_of : FuncData
  F_marks_of : FnP K "marks_of" s_marks_of f_marks_of fd_marks_of
  g_marks_of : mg "marks_of" = some (.ref f_marks_of)
  b_marks_of : Binds K fd_marks_of ["degree"] []
  f_require_told : Addr
  fd_require_told : FuncData
  F_require_told : FnP K "require_told" s_require_told f_require_told fd_require_told
  g_require_told : mg "require_told" = some (.ref f_require_told)
  b_require_told : Binds K fd_require_told ["degree"] []
  f_require_told_form : Addr
  fd_require_told_form : FuncData
  F_require_told_form : FnP K "require_told_form" s_require_told_form f_require_told_form fd_require_told_form
  g_require_told_form : mg "require_told_form" = some (.ref f_require_told_form)
  b_require_told_form : Binds K fd_require_told_form ["form"] []
  f_told_rows : Addr
  fd_told_rows : FuncData
  F_told_rows : FnP K "told_rows" s_told_rows f_told_rows fd_told_rows
  g_told_rows : mg "told_rows" = some (.ref f_told_rows)
  b_told_rows : Binds K fd_told_rows ["degree"] []
  f_told_at : Addr
  fd_told_at : FuncData
  F_told_at : FnP K "told_at" s_told_at f_told_at fd_told_at
  g_told_at : mg "told_at" = some (.ref f_told_at)
  b_told_at : Binds K fd_told_at ["form"] []
  f_member_marks : Addr
  fd_member_marks : FuncData
  F_member_marks : FnP K "member_marks" s_member_marks f_member_marks fd_member_marks
  g_member_marks : mg "member_marks" = some (.ref f_member_marks)
  b_member_marks : Binds K fd_member_marks ["degree"] []
  f_law_dice : Addr
  fd_law_dice : FuncData
  F_law_dice : FnP K "_law_dice" s_law_dice f_law_dice fd_law_dice
  g_law_dice : mg "_law_dice" = some (.ref f_law_dice)
  b_law_dice : Binds K fd_law_dice ["_law_script", "_law_spot"] []
  f_law_roll : Addr
  fd_law_roll : FuncData
  F_law_roll : FnP K "_law_roll" s_law_roll f_law_roll fd_law_roll
  g_law_roll : mg "_law_roll" = some (.ref f_law_roll)
  b_law_roll : Binds K fd_law_roll ["_law_dice_here", "_law_total"] []
  f_law_near : Addr
  fd_law_near : FuncData
  F_law_near : FnP K "_law_near" s_law_near f_law_near fd_law_near
  g_law_near : mg "_law_near" = some (.ref f_law_near)
  b_law_near : Binds K fd_law_near ["_law_dice_here", "_law_most"] []
  f_law_raised : Addr
  fd_law_raised : FuncData
  F_law_raised : FnP K "_law_raised" s_law_raised f_law_raised fd_law_raised
  g_law_raised : mg "_law_raised" = some (.ref f_law_raised)
  b_law_raised : Binds K fd_law_raised ["_law_number", "_law_times"] []
  f_law_choose : Addr
  fd_law_choose : FuncData
  F_law_choose : FnP K "_law_choose" s_law_choose f_law_choose fd_law_choose
  g_law_choose : mg "_law_choose" = some (.ref f_law_choose)
  b_law_choose : Binds K fd_law_choose ["_law_many", "_law_few"] []
  f_law_plus : Addr
  fd_law_plus : FuncData
  F_law_plus : FnP K "_law_plus" s_law_plus f_law_plus fd_law_plus
  g_law_plus : mg "_law_plus" = some (.ref f_law_plus)
  b_law_plus : Binds K fd_law_plus ["_law_one", "_law_other"] []
  f_law_scaled : Addr
  fd_law_scaled : FuncData
  F_law_scaled : FnP K "_law_scaled" s_law_scaled f_law_scaled fd_law_scaled
  g_law_scaled : mg "_law_scaled" = some (.ref f_law_scaled)
  b_law_scaled : Binds K fd_law_scaled ["_law_form", "_law_factor"] []
  f_law_product : Addr
  fd_law_product : FuncData
  F_law_product : FnP K "_law_product" s_law_product f_law_product fd_law_product
  g_law_product : mg "_law_product" = some (.ref f_law_product)
  b_law_product : Binds K fd_law_product ["_law_one", "_law_other"] []
  f_law_power : Addr
  fd_law_power : FuncData
  F_law_power : FnP K "_law_power" s_law_power f_law_power fd_law_power
  g_law_power : mg "_law_power" = some (.ref f_law_power)
  b_law_power : Binds K fd_law_power ["_law_pair", "_law_times"] []
  f_law_by_x : Addr
  fd_law_by_x : FuncData
  F_law_by_x : FnP K "_law_by_x" s_law_by_x f_law_by_x fd_law_by_x
  g_law_by_x : mg "_law_by_x" = some (.ref f_law_by_x)
  b_law_by_x : Binds K fd_law_by_x ["_law_form"] []
  f_law_by_y : Addr
  fd_law_by_y : FuncData
  F_law_by_y : FnP K "_law_by_y" s_law_by_y f_law_by_y fd_law_by_y
  g_law_by_y : mg "_law_by_y" = some (.ref f_law_by_y)
  b_law_by_y : Binds K fd_law_by_y ["_law_form"] []
  f_law_derived : Addr
  fd_law_derived : FuncData
  F_law_derived : FnP K "_law_derived" s_law_derived f_law_derived fd_law_derived
  g_law_derived : mg "_law_derived" = some (.ref f_law_derived)
  b_law_derived : Binds K fd_law_derived ["_law_form", "_law_one", "_law_other"] []
  f_law_laid : Addr
  fd_law_laid : FuncData
  F_law_laid : FnP K "_law_laid" s_law_laid f_law_laid fd_law_laid
  g_law_laid : mg "_law_laid" = some (.ref f_law_laid)
  b_law_laid : Binds K fd_law_laid ["_law_one", "_law_other", "_law_times"] []
  f_law_changed : Addr
  fd_law_changed : FuncData
  F_law_changed : FnP K "_law_changed" s_law_changed f_law_changed fd_law_changed
  g_law_changed : mg "_law_changed" = some (.ref f_law_changed)
  b_law_changed : Binds K fd_law_changed ["_law_form", "_law_table_here"] []
  f_law_table : Addr
  fd_law_table : FuncData
  F_law_table : FnP K "_law_table" s_law_table f_law_table fd_law_table
  g_law_table : mg "_law_table" = some (.ref f_law_table)
  b_law_table : Binds K fd_law_table ["_law_dice_here", "_law_most"] []
  f_law_det : Addr
  fd_law_det : FuncData
  F_law_det : FnP K "_law_det" s_law_det f_law_det fd_law_det
  g_law_det : mg "_law_det" = some (.ref f_law_det)
  b_law_det : Binds K fd_law_det ["_law_table_here"] []
  f_law_told_row_list : Addr
  fd_law_told_row_list : FuncData
  F_law_told_row_list : FnP K "_law_told_row_list" s_law_told_row_list f_law_told_row_list fd_law_told_row_list
  g_law_told_row_list : mg "_law_told_row_list" = some (.ref f_law_told_row_list)
  b_law_told_row_list : Binds K fd_law_told_row_list ["_law_degree"] []
  f_law_marks_of : Addr
  fd_law_marks_of : FuncData
  F_law_marks_of : FnP K "_law_marks_of" s_law_marks_of f_law_marks_of fd_law_marks_of
  g_law_marks_of : mg "_law_marks_of" = some (.ref f_law_marks_of)
  b_law_marks_of : Binds K fd_law_marks_of ["_law_degree"] []
  f_law_members_of : Addr
  fd_law_members_of : FuncData
  F_law_members_of : FnP K "_law_members_of" s_law_members_of f_law_members_of fd_law_members_of
  g_law_members_of : mg "_law_members_of" = some (.ref f_law_members_of)
  b_law_members_of : Binds K fd_law_members_of ["_law_entries"] []
  f_law_right : Addr
  fd_law_right : FuncData
  F_law_right : FnP K "_law_right" s_law_right f_law_right fd_law_right
  g_law_right : mg "_law_right" = some (.ref f_law_right)
  b_law_right : Binds K fd_law_right ["_law_dice_here", "_law_degree"] []
  f_law : Addr
  fd_law : FuncData
  F_law : FnP K "law" s_law f_law fd_law
  g_law : mg "law" = some (.ref f_law)
  b_law : Binds K fd_law ["_law_script"] []
  f_Told_init : Addr
  fd_Told_init : FuncData
  F_Told_init : FnM K "__init__" "Told.__init__" s_Told_init f_Told_init fd_Told_init
  b_Told_init : Binds K fd_Told_init ["self", "row"] []
  f_Form_init : Addr
  fd_Form_init : FuncData
  F_Form_init : FnM K "__init__" "Form.__init__" s_Form_init f_Form_init fd_Form_init
  b_Form_init : Binds K fd_Form_init ["self", "entries"] []
  f_Form_entries : Addr
  fd_Form_entries : FuncData
  F_Form_entries : FnM K "entries" "Form.entries" s_Form_entries f_Form_entries fd_Form_entries
  b_Form_entries : Binds K fd_Form_entries ["self"] []
  f_Form_degree : Addr
  fd_Form_degree : FuncData
  F_Form_degree : FnM K "degree" "Form.degree" s_Form_degree f_Form_degree fd_Form_degree
  b_Form_degree : Binds K fd_Form_degree ["self"] []
  f_Form_is_zero : Addr
  fd_Form_is_zero : FuncData
  F_Form_is_zero : FnM K "is_zero" "Form.is_zero" s_Form_is_zero f_Form_is_zero fd_Form_is_zero
  b_Form_is_zero : Binds K fd_Form_is_zero ["self"] []
  f_Form_eq : Addr
  fd_Form_eq : FuncData
  F_Form_eq : FnM K "__eq__" "Form.__eq__" s_Form_eq f_Form_eq fd_Form_eq
  b_Form_eq : Binds K fd_Form_eq ["self", "other"] []
  C_Told : Addr
  g_Told : mg "Told" = some (.ref C_Told)
  oc_Told : OwnF.OC K C_Told
  mk_Told : Mk K C_Told f_Told_init
  a_own_row : Addr
  sl_own_row : SlX.Slot1 K C_Told "own_row" a_own_row 0
  C_Form : Addr
  g_Form : mg "Form" = some (.ref C_Form)
  oc_Form : OwnF.OC K C_Form
  mk_Form : Mk K C_Form f_Form_init
  a_own_entries : Addr
  sl_own_entries : SlX.Slot1 K C_Form "own_entries" a_own_entries 0
  mt_Told_init : HookG.Mt K C_Told "__init__" f_Told_init
  mt_Form_init : HookG.Mt K C_Form "__init__" f_Form_init
  p_Form_entries : Addr
  pr_Form_entries : HookG.Pr K C_Form "entries" p_Form_entries f_Form_entries
  p_Form_degree : Addr
  pr_Form_degree : HookG.Pr K C_Form "degree" p_Form_degree f_Form_degree
  p_Form_is_zero : Addr
  pr_Form_is_zero : HookG.Pr K C_Form "is_zero" p_Form_is_zero f_Form_is_zero
  mt_Form_eq : HookG.Mt K C_Form "__eq__" f_Form_eq
  kit_Told_Form : PySem.W.kitOne K (.ref C_Told) (.ref C_Form) = some false
  kit_Form_Told : PySem.W.kitOne K (.ref C_Form) (.ref C_Told) = some false
  z_abs : mg "abs" = none
  z_all : mg "all" = none
  z_any : mg "any" = none
  z_bool : mg "bool" = none
  z_enumerate : mg "enumerate" = none
  z_int : mg "int" = none
  z_isinstance : mg "isinstance" = none
  z_len : mg "len" = none
  z_list : mg "list" = none
  z_max : mg "max" = none
  z_min : mg "min" = none
  z_range : mg "range" = none
  z_tuple : mg "tuple" = none
  z_zip : mg "zip" = none
  c_GREATEST : ∃ t, mg "GREATEST" = some (.int 1000000000000000000000000000000000000000000000000000000000000 t)
  c_MAX_DEGREE : ∃ t, mg "MAX_DEGREE" = some (.int 40 t)
  c_MOST_ROWS : ∃ t, mg "MOST_ROWS" = some (.int 24 t)
  c_MOST_SIZE : ∃ t, mg "MOST_SIZE" = some (.int 24 t)
  c_MOST_LAID : ∃ t, mg "MOST_LAID" = some (.int 40 t)
  c_TRIPLE : ∃ t, mg "TRIPLE" = some (.int 3 t)
  c_ROW : ∃ t, mg "ROW" = some (.str "row" t)
  A_TOLD : Addr
  t_TOLD : DictT.Dk K mg "TOLD" v_TOLD A_TOLD
  C_Refused : Addr
  fI_Refused : Addr
  cc_Refused : Addr
  cd_Refused : Addr
  sup_Refused : PySem.SupX.SupTxt K mg "Refused" "refused for a reason" "ArithmeticError.__new__" [.type "ArithmeticError", .type "Exception", .type "BaseException", .type "object"] "/claim/cut.py" C_Refused fI_Refused cc_Refused cd_Refused
/-! ### for the head -/
def d_is_whole : HookG.GD := ⟨.glo "is_whole", "is_whole", "is_whole", defArgs s_is_whole, defBody s_is_whole, defScope s_is_whole⟩
def d_is_short : HookG.GD := ⟨.glo "is_short", "is_short", "is_short", defArgs s_is_short, defBody s_is_short, defScope s_is_short⟩
def d_is_from : HookG.GD := ⟨.glo "is_from", "is_from", "is_from", defArgs s_is_from, defBody s_is_from, defScope s_is_from⟩
def d_are_short : HookG.GD := ⟨.glo "are_short", "are_short", "are_short", defArgs s_are_short, defBody s_are_short, defScope s_are_short⟩
def d_lots_of : HookG.GD := ⟨.glo "lots_of", "lots_of", "lots_of", defArgs s_lots_of, defBody s_lots_of, defScope s_lots_of⟩
def d_is_zero_in : HookG.GD := ⟨.glo "is_zero_in", "is_zero_in", "is_zero_in", defArgs s_is_zero_in, defBody s_is_zero_in, defScope s_is_zero_in⟩
def d_are_entries : HookG.GD := ⟨.glo "are_entries", "are_entries", "are_entries", defArgs s_are_entries, defBody s_are_entries, defScope s_are_entries⟩
def d_form_of : HookG.GD := ⟨.glo "form_of", "form_of", "form_of", defArgs s_form_of, defBody s_form_of, defScope s_form_of⟩
def d_require_form : HookG.GD := ⟨.glo "require_form", "require_form", "require_form", defArgs s_require_form, defBody s_require_form, defScope s_require_form⟩
def d_laying_slope : HookG.GD := ⟨.glo "laying_slope", "laying_slope", "laying_slope", defArgs s_laying_slope, defBody s_laying_slope, defScope s_laying_slope⟩
def d_laying_slopes : HookG.GD := ⟨.glo "laying_slopes", "laying_slopes", "laying_slopes", defArgs s_laying_slopes, defBody s_laying_slopes, defScope s_laying_slopes⟩
def d_add_product : HookG.GD := ⟨.glo "add_product", "add_product", "add_product", defArgs s_add_product, defBody s_add_product, defScope s_add_product⟩
def d_laid_in : HookG.GD := ⟨.glo "laid_in", "laid_in", "laid_in", defArgs s_laid_in, defBody s_laid_in, defScope s_laid_in⟩
def d_is_row_triple : HookG.GD := ⟨.glo "is_row_triple", "is_row_triple", "is_row_triple", defArgs s_is_row_triple, defBody s_is_row_triple, defScope s_is_row_triple⟩
def d_is_row_list : HookG.GD := ⟨.glo "is_row_list", "is_row_list", "is_row_list", defArgs s_is_row_list, defBody s_is_row_list, defScope s_is_row_list⟩
def d_require_row_list : HookG.GD := ⟨.glo "require_row_list", "require_row_list", "require_row_list", defArgs s_require_row_list, defBody s_require_row_list, defScope s_require_row_list⟩
def d_run_in : HookG.GD := ⟨.glo "run_in", "run_in", "run_in", defArgs s_run_in, defBody s_run_in, defScope s_run_in⟩
def d_run_rows : HookG.GD := ⟨.glo "run_rows", "run_rows", "run_rows", defArgs s_run_rows, defBody s_run_rows, defScope s_run_rows⟩
def d_marks_of : HookG.GD := ⟨.glo "marks_of", "marks_of", "marks_of", defArgs s_marks_of, defBody s_marks_of, defScope s_marks_of⟩
def d_require_told : HookG.GD := ⟨.glo "require_told", "require_told", "require_told", defArgs s_require_told, defBody s_require_told, defScope s_require_told⟩
def d_require_told_form : HookG.GD := ⟨.glo "require_told_form", "require_told_form", "require_told_form", defArgs s_require_told_form, defBody s_require_told_form, defScope s_require_told_form⟩
def d_told_rows : HookG.GD := ⟨.glo "told_rows", "told_rows", "told_rows", defArgs s_told_rows, defBody s_told_rows, defScope s_told_rows⟩
def d_told_at : HookG.GD := ⟨.glo "told_at", "told_at", "told_at", defArgs s_told_at, defBody s_told_at, defScope s_told_at⟩
def d_member_marks : HookG.GD := ⟨.glo "member_marks", "member_marks", "member_marks", defArgs s_member_marks, defBody s_member_marks, defScope s_member_marks⟩
def d_law_dice : HookG.GD := ⟨.glo "_law_dice", "_law_dice", "_law_dice", defArgs s_law_dice, defBody s_law_dice, defScope s_law_dice⟩
def d_law_roll : HookG.GD := ⟨.glo "_law_roll", "_law_roll", "_law_roll", defArgs s_law_roll, defBody s_law_roll, defScope s_law_roll⟩
def d_law_near : HookG.GD := ⟨.glo "_law_near", "_law_near", "_law_near", defArgs s_law_near, defBody s_law_near, defScope s_law_near⟩
def d_law_raised : HookG.GD := ⟨.glo "_law_raised", "_law_raised", "_law_raised", defArgs s_law_raised, defBody s_law_raised, defScope s_law_raised⟩
def d_law_choose : HookG.GD := ⟨.glo "_law_choose", "_law_choose", "_law_choose", defArgs s_law_choose, defBody s_law_choose, defScope s_law_choose⟩
def d_law_plus : HookG.GD := ⟨.glo "_law_plus", "_law_plus", "_law_plus", defArgs s_law_plus, defBody s_law_plus, defScope s_law_plus⟩
def d_law_scaled : HookG.GD := ⟨.glo "_law_scaled", "_law_scaled", "_law_scaled", defArgs s_law_scaled, defBody s_law_scaled, defScope s_law_scaled⟩
def d_law_product : HookG.GD := ⟨.glo "_law_product", "_law_product", "_law_product", defArgs s_law_product, defBody s_law_product, defScope s_law_product⟩
def d_law_power : HookG.GD := ⟨.glo "_law_power", "_law_power", "_law_power", defArgs s_law_power, defBody s_law_power, defScope s_law_power⟩
def d_law_by_x : HookG.GD := ⟨.glo "_law_by_x", "_law_by_x", "_law_by_x", defArgs s_law_by_x, defBody s_law_by_x, defScope s_law_by_x⟩
def d_law_by_y : HookG.GD := ⟨.glo "_law_by_y", "_law_by_y", "_law_by_y", defArgs s_law_by_y, defBody s_law_by_y, defScope s_law_by_y⟩
def d_law_derived : HookG.GD := ⟨.glo "_law_derived", "_law_derived", "_law_derived", defArgs s_law_derived, defBody s_law_derived, defScope s_law_derived⟩
def d_law_laid : HookG.GD := ⟨.glo "_law_laid", "_law_laid", "_law_laid", defArgs s_law_laid, defBody s_law_laid, defScope s_law_laid⟩
def d_law_changed : HookG.GD := ⟨.glo "_law_changed", "_law_changed", "_law_changed", defArgs s_law_changed, defBody s_law_changed, defScope s_law_changed⟩
def d_law_table : HookG.GD := ⟨.glo "_law_table", "_law_table", "_law_table", defArgs s_law_table, defBody s_law_table, defScope s_law_table⟩
def d_law_det : HookG.GD := ⟨.glo "_law_det", "_law_det", "_law_det", defArgs s_law_det, defBody s_law_det, defScope s_law_det⟩
def d_law_told_row_list : HookG.GD := ⟨.glo "_law_told_row_list", "_law_told_row_list", "_law_told_row_list", defArgs s_law_told_row_list, defBody s_law_told_row_list, defScope s_law_told_row_list⟩
def d_law_marks_of : HookG.GD := ⟨.glo "_law_marks_of", "_law_marks_of", "_law_marks_of", defArgs s_law_marks_of, defBody s_law_marks_of, defScope s_law_marks_of⟩
def d_law_members_of : HookG.GD := ⟨.glo "_law_members_of", "_law_members_of", "_law_members_of", defArgs s_law_members_of, defBody s_law_members_of, defScope s_law_members_of⟩
def d_law_right : HookG.GD := ⟨.glo "_law_right", "_law_right", "_law_right", defArgs s_law_right, defBody s_law_right, defScope s_law_right⟩
def d_law : HookG.GD := ⟨.glo "law", "law", "law", defArgs s_law, defBody s_law, defScope s_law⟩
def d_Told_init : HookG.GD := ⟨.met "Told" "__init__", "__init__", "Told.__init__", defArgs s_Told_init, defBody s_Told_init, defScope s_Told_init⟩
def d_Form_init : HookG.GD := ⟨.met "Form" "__init__", "__init__", "Form.__init__", defArgs s_Form_init, defBody s_Form_init, defScope s_Form_init⟩
def d_Form_entries : HookG.GD := ⟨.prp "Form" "entries", "entries", "Form.entries", defArgs s_Form_entries, defBody s_Form_entries, defScope s_Form_entries⟩
def d_Form_degree : HookG.GD := ⟨.prp "Form" "degree", "degree", "Form.degree", defArgs s_Form_degree, defBody s_Form_degree, defScope s_Form_degree⟩
def d_Form_is_zero : HookG.GD := ⟨.prp "Form" "is_zero", "is_zero", "Form.is_zero", defArgs s_Form_is_zero, defBody s_Form_is_zero, defScope s_Form_is_zero⟩
def d_Form_eq : HookG.GD := ⟨.met "Form" "__eq__", "__eq__", "Form.__eq__", defArgs s_Form_eq, defBody s_Form_eq, defScope s_Form_eq⟩
def fnL : List HookG.GD := [d_is_whole, d_is_short, d_is_from, d_are_short, d_lots_of, d_is_zero_in, d_are_entries, d_form_of, d_require_form, d_laying_slope, d_laying_slopes, d_add_product, d_laid_in, d_is_row_triple, d_is_row_list, d_require_row_list, d_run_in, d_run_rows, d_marks_of, d_require_told, d_require_told_form, d_told_rows, d_told_at, d_member_marks, d_law_dice, d_law_roll, d_law_near, d_law_raised, d_law_choose, d_law_plus, d_law_scaled, d_law_product, d_law_power, d_law_by_x, d_law_by_y, d_law_derived, d_law_laid, d_law_changed, d_law_table, d_law_det, d_law_told_row_list, d_law_marks_of, d_law_members_of, d_law_right, d_law, d_Told_init, d_Form_init, d_Form_entries, d_Form_degree, d_Form_is_zero, d_Form_eq]
def faL : List He.Fa := [.glo "is_whole", .glo "is_short", .glo "is_from", .glo "are_short", .glo "lots_of", .glo "is_zero_in", .glo "are_entries", .glo "form_of", .glo "require_form", .glo "laying_slope", .glo "laying_slopes", .glo "add_product", .glo "laid_in", .glo "is_row_triple", .glo "is_row_list", .glo "require_row_list", .glo "run_in", .glo "run_rows", .glo "marks_of", .glo "require_told", .glo "require_told_form", .glo "told_rows", .glo "told_at", .glo "member_marks", .glo "_law_dice", .glo "_law_roll", .glo "_law_near", .glo "_law_raised", .glo "_law_choose", .glo "_law_plus", .glo "_law_scaled", .glo "_law_product", .glo "_law_power", .glo "_law_by_x", .glo "_law_by_y", .glo "_law_derived", .glo "_law_laid", .glo "_law_changed", .glo "_law_table", .glo "_law_det", .glo "_law_told_row_list", .glo "_law_marks_of", .glo "_law_members_of", .glo "_law_right", .glo "law", .glo "Told", .glo "Form", .free "abs", .free "all", .free "any", .free "bool", .free "enumerate", .free "int", .free "isinstance", .free "len", .free "list", .free "max", .free "min", .free "range", .free "tuple", .free "zip", .int "GREATEST" 1000000000000000000000000000000000000000000000000000000000000, .int "MAX_DEGREE" 40, .int "MOST_ROWS" 24, .int "MOST_SIZE" 24, .int "MOST_LAID" 40, .int "TRIPLE" 3, .mkr "Told", .mkr "Form", .str "ROW" "row"]
def sd_Refused : HookS.SD := ⟨"Refused", "refused for a reason", "Refused.__init__", 0, ⟨29, 17, 29, 21⟩, ⟨29, 23, 29, 29⟩, ⟨30, 8, 30, 13⟩, ⟨30, 8, 30, 15⟩, ⟨30, 8, 30, 24⟩, ⟨30, 25, 30, 47⟩, ⟨30, 8, 30, 48⟩, ⟨30, 8, 30, 48⟩, ⟨31, 8, 31, 12⟩, ⟨31, 8, 31, 19⟩, ⟨31, 22, 31, 28⟩, ⟨31, 8, 31, 28⟩⟩
def sdL : List HookS.SD := [sd_Refused]
def exL (K : PySem.W.Frag) : Bool := OwnF.ocB K "Told" && (HookG.slotB K "Told" "own_row" 0 && (OwnF.ocB K "Form" && (HookG.slotB K "Form" "own_entries" 0 && (HookG.mtB K "Told" "__init__" && (HookG.mtB K "Form" "__init__" && (HookG.prB K "Form" "entries" && (HookG.prB K "Form" "degree" && (HookG.prB K "Form" "is_zero" && (HookG.mtB K "Form" "__eq__" && (HookG.dO (PySem.W.kitOne K (.ref (He.ga K "Told")) (.ref (He.ga K "Form"))) (some false) && (HookG.dO (PySem.W.kitOne K (.ref (He.ga K "Form")) (.ref (He.ga K "Told"))) (some false) && (DictT.dictB K "TOLD" v_TOLD && (HookS.SD.ok "ArithmeticError.__new__" [.type "ArithmeticError", .type "Exception", .type "BaseException", .type "object"] "/claim/cut.py" K sd_Refused)))))))))))))
theorem facts_of {K : PySem.W.Frag} {h : Heap} {mg : Str → Option Value} (X : K.In h) (G : h.Ns mainGlobals mg) (cS : HookS.SaysS faL fnL exL sdL K) : Nonempty (Facts K mg) := by
  have c := cS.g
  have ex := c.more
  unfold exL at ex
  obtain ⟨ex_0, ex⟩ := He.ba ex
  obtain ⟨ex_1, ex⟩ := He.ba ex
  obtain ⟨ex_2, ex⟩ := He.ba ex
  obtain ⟨ex_3, ex⟩ := He.ba ex
  obtain ⟨ex_4, ex⟩ := He.ba ex
  obtain ⟨ex_5, ex⟩ := He.ba ex
  obtain ⟨ex_6, ex⟩ := He.ba ex
  obtain ⟨ex_7, ex⟩ := He.ba ex
  obtain ⟨ex_8, ex⟩ := He.ba ex
  obtain ⟨ex_9, ex⟩ := He.ba ex
  obtain ⟨ex_10, ex⟩ := He.ba ex
  obtain ⟨ex_11, ex⟩ := He.ba ex
  obtain ⟨ex_12, ex⟩ := He.ba ex
  obtain ⟨fd_is_whole, F_is_whole⟩ := c.def_ 0 (d := d_is_whole) rfl
  obtain ⟨fd_is_short, F_is_short⟩ := c.def_ 1 (d := d_is_short) rfl
  obtain ⟨fd_is_from, F_is_from⟩ := c.def_ 2 (d := d_is_from) rfl
  obtain ⟨fd_are_short, F_are_short⟩ := c.def_ 3 (d := d_are_short) rfl
  obtain ⟨fd_lots_of, F_lots_of⟩ := c.def_ 4 (d := d_lots_of) rfl
  obtain ⟨fd_is_zero_in, F_is_zero_in⟩ := c.def_ 5 (d := d_is_zero_in) rfl
  obtain ⟨fd_are_entries, F_are_entries⟩ := c.def_ 6 (d := d_are_entries) rfl
  obtain ⟨fd_form_of, F_form_of⟩ := c.def_ 7 (d := d_form_of) rfl
  obtain ⟨fd_require_form, F_require_form⟩ := c.def_ 8 (d := d_require_form) rfl
  obtain ⟨fd_laying_slope, F_laying_slope⟩ := c.def_ 9 (d := d_laying_slope) rfl
  obtain ⟨fd_laying_slopes, F_laying_slopes⟩ := c.def_ 10 (d := d_laying_slopes) rfl
  obtain ⟨fd_add_product, F_add_product⟩ := c.def_ 11 (d := d_add_product) rfl
  obtain ⟨fd_laid_in, F_laid_in⟩ := c.def_ 12 (d := d_laid_in) rfl
  obtain ⟨fd_is_row_triple, F_is_row_triple⟩ := c.def_ 13 (d := d_is_row_triple) rfl
  obtain ⟨fd_is_row_list, F_is_row_list⟩ := c.def_ 14 (d := d_is_row_list) rfl
  obtain ⟨fd_require_row_list, F_require_row_list⟩ := c.def_ 15 (d := d_require_row_list) rfl
  obtain ⟨fd_run_in, F_run_in⟩ := c.def_ 16 (d := d_run_in) rfl
  obtain ⟨fd_run_rows, F_run_rows⟩ := c.def_ 17 (d := d_run_rows) rfl
  obtain ⟨fd_marks_of, F_marks_of⟩ := c.def_ 18 (d := d_marks_of) rfl
  obtain ⟨fd_require_told, F_require_told⟩ := c.def_ 19 (d := d_require_told) rfl
  obtain ⟨fd_require_told_form, F_require_told_form⟩ := c.def_ 20 (d := d_require_told_form) rfl
  obtain ⟨fd_told_rows, F_told_rows⟩ := c.def_ 21 (d := d_told_rows) rfl
  obtain ⟨fd_told_at, F_told_at⟩ := c.def_ 22 (d := d_told_at) rfl
  obtain ⟨fd_member_marks, F_member_marks⟩ := c.def_ 23 (d := d_member_marks) rfl
  obtain ⟨fd_law_dice, F_law_dice⟩ := c.def_ 24 (d := d_law_dice) rfl
  obtain ⟨fd_law_roll, F_law_roll⟩ := c.def_ 25 (d := d_law_roll) rfl
  obtain ⟨fd_law_near, F_law_near⟩ := c.def_ 26 (d := d_law_near) rfl
  obtain ⟨fd_law_raised, F_law_raised⟩ := c.def_ 27 (d := d_law_raised) rfl
  obtain ⟨fd_law_choose, F_law_choose⟩ := c.def_ 28 (d := d_law_choose) rfl
  obtain ⟨fd_law_plus, F_law_plus⟩ := c.def_ 29 (d := d_law_plus) rfl
  obtain ⟨fd_law_scaled, F_law_scaled⟩ := c.def_ 30 (d := d_law_scaled) rfl
  obtain ⟨fd_law_product, F_law_product⟩ := c.def_ 31 (d := d_law_product) rfl
  obtain ⟨fd_law_power, F_law_power⟩ := c.def_ 32 (d := d_law_power) rfl
  obtain ⟨fd_law_by_x, F_law_by_x⟩ := c.def_ 33 (d := d_law_by_x) rfl
  obtain ⟨fd_law_by_y, F_law_by_y⟩ := c.def_ 34 (d := d_law_by_y) rfl
  obtain ⟨fd_law_derived, F_law_derived⟩ := c.def_ 35 (d := d_law_derived) rfl
  obtain ⟨fd_law_laid, F_law_laid⟩ := c.def_ 36 (d := d_law_laid) rfl
  obtain ⟨fd_law_changed, F_law_changed⟩ := c.def_ 37 (d := d_law_changed) rfl
  obtain ⟨fd_law_table, F_law_table⟩ := c.def_ 38 (d := d_law_table) rfl
  obtain ⟨fd_law_det, F_law_det⟩ := c.def_ 39 (d := d_law_det) rfl
  obtain ⟨fd_law_told_row_list, F_law_told_row_list⟩ := c.def_ 40 (d := d_law_told_row_list) rfl
  obtain ⟨fd_law_marks_of, F_law_marks_of⟩ := c.def_ 41 (d := d_law_marks_of) rfl
  obtain ⟨fd_law_members_of, F_law_members_of⟩ := c.def_ 42 (d := d_law_members_of) rfl
  obtain ⟨fd_law_right, F_law_right⟩ := c.def_ 43 (d := d_law_right) rfl
  obtain ⟨fd_law, F_law⟩ := c.def_ 44 (d := d_law) rfl
  obtain ⟨fd_Told_init, F_Told_init⟩ := c.def_ 45 (d := d_Told_init) rfl
  obtain ⟨fd_Form_init, F_Form_init⟩ := c.def_ 46 (d := d_Form_init) rfl
  obtain ⟨fd_Form_entries, F_Form_entries⟩ := c.def_ 47 (d := d_Form_entries) rfl
  obtain ⟨fd_Form_degree, F_Form_degree⟩ := c.def_ 48 (d := d_Form_degree) rfl
  obtain ⟨fd_Form_is_zero, F_Form_is_zero⟩ := c.def_ 49 (d := d_Form_is_zero) rfl
  obtain ⟨fd_Form_eq, F_Form_eq⟩ := c.def_ 50 (d := d_Form_eq) rfl
  exact ⟨{ f_is_whole := _, fd_is_whole := _, F_is_whole := F_is_whole, b_is_whole := (F_is_whole.bindsN fun _ _ _ _ _ _ us hl => match us, hl with | [_], _ => rfl), g_is_whole := He.glo_ok X G (c.fact 0 (f := .glo "is_whole") rfl), f_is_short := _, fd_is_short := _, F_is_short := F_is_short, b_is_short := (F_is_short.bindsN fun _ _ _ _ _ _ us hl => match us, hl with | [_], _ => rfl), g_is_short := He.glo_ok X G (c.fact 1 (f := .glo "is_short") rfl), f_is_from := _, fd_is_from := _, F_is_from := F_is_from, b_is_from := (F_is_from.bindsN fun _ _ _ _ _ _ us hl => match us, hl with | [_, _, _], _ => rfl), g_is_from := He.glo_ok X G (c.fact 2 (f := .glo "is_from") rfl), f_are_short := _, fd_are_short := _, F_are_short := F_are_short, b_are_short := (F_are_short.bindsN fun _ _ _ _ _ _ us hl => match us, hl with | [_], _ => rfl), g_are_short := He.glo_ok X G (c.fact 3 (f := .glo "are_short") rfl), f_lots_of := _, fd_lots_of := _, F_lots_of := F_lots_of, b_lots_of := (F_lots_of.bindsN fun _ _ _ _ _ _ us hl => match us, hl with | [_, _], _ => rfl), g_lots_of := He.glo_ok X G (c.fact 4 (f := .glo "lots_of") rfl), f_is_zero_in := _, fd_is_zero_in := _, F_is_zero_in := F_is_zero_in, b_is_zero_in := (F_is_zero_in.bindsN fun _ _ _ _ _ _ us hl => match us, hl with | [_], _ => rfl), g_is_zero_in := He.glo_ok X G (c.fact 5 (f := .glo "is_zero_in") rfl), f_are_entries := _, fd_are_entries := _, F_are_entries := F_are_entries, b_are_entries := (F_are_entries.bindsN fun _ _ _ _ _ _ us hl => match us, hl with | [_], _ => rfl), g_are_entries := He.glo_ok X G (c.fact 6 (f := .glo "are_entries") rfl), f_form_of := _, fd_form_of := _, F_form_of := F_form_of, b_form_of := (F_form_of.bindsN fun _ _ _ _ _ _ us hl => match us, hl with | [_], _ => rfl), g_form_of := He.glo_ok X G (c.fact 7 (f := .glo "form_of") rfl), f_require_form := _, fd_require_form := _, F_require_form := F_require_form, b_require_form := (F_require_form.bindsN fun _ _ _ _ _ _ us hl => match us, hl with | [_], _ => rfl), g_require_form := He.glo_ok X G (c.fact 8 (f := .glo "require_form") rfl), f_laying_slope := _, fd_laying_slope := _, F_laying_slope := F_laying_slope, b_laying_slope := (F_laying_slope.bindsN fun _ _ _ _ _ _ us hl => match us, hl with | [_, _], _ => rfl), g_laying_slope := He.glo_ok X G (c.fact 9 (f := .glo "laying_slope") rfl), f_laying_slopes := _, fd_laying_slopes := _, F_laying_slopes := F_laying_slopes, b_laying_slopes := (F_laying_slopes.bindsN fun _ _ _ _ _ _ us hl => match us, hl with | [_, _], _ => rfl), g_laying_slopes := He.glo_ok X G (c.fact 10 (f := .glo "laying_slopes") rfl), f_add_product := _, fd_add_product := _, F_add_product := F_add_product, b_add_product := (F_add_product.bindsN fun _ _ _ _ _ _ us hl => match us, hl with | [_, _, _, _], _ => rfl), g_add_product := He.glo_ok X G (c.fact 11 (f := .glo "add_product") rfl), f_laid_in := _, fd_laid_in := _, F_laid_in := F_laid_in, b_laid_in := (F_laid_in.bindsN fun _ _ _ _ _ _ us hl => match us, hl with | [_, _, _], _ => rfl), g_laid_in := He.glo_ok X G (c.fact 12 (f := .glo "laid_in") rfl), f_is_row_triple := _, fd_is_row_triple := _, F_is_row_triple := F_is_row_triple, b_is_row_triple := (F_is_row_triple.bindsN fun _ _ _ _ _ _ us hl => match us, hl with | [_, _], _ => rfl), g_is_row_triple := He.glo_ok X G (c.fact 13 (f := .glo "is_row_triple") rfl), f_is_row_list := _, fd_is_row_list := _, F_is_row_list := F_is_row_list, b_is_row_list := (F_is_row_list.bindsN fun _ _ _ _ _ _ us hl => match us, hl with | [_], _ => rfl), g_is_row_list := He.glo_ok X G (c.fact 14 (f := .glo "is_row_list") rfl), f_require_row_list := _, fd_require_row_list := _, F_require_row_list := F_require_row_list, b_require_row_list := (F_require_row_list.bindsN fun _ _ _ _ _ _ us hl => match us, hl with | [_], _ => rfl), g_require_row_list := He.glo_ok X G (c.fact 15 (f := .glo "require_row_list") rfl), f_run_in := _, fd_run_in := _, F_run_in := F_run_in, b_run_in := (F_run_in.bindsN fun _ _ _ _ _ _ us hl => match us, hl with | [_, _], _ => rfl), g_run_in := He.glo_ok X G (c.fact 16 (f := .glo "run_in") rfl), f_run_rows := _, fd_run_rows := _, F_run_rows := F_run_rows, b_run_rows := (F_run_rows.bindsN fun _ _ _ _ _ _ us hl => match us, hl with | [_, _], _ => rfl), g_run_rows := He.glo_ok X G (c.fact 17 (f := .glo "run_rows") rfl), f_marks_of := _, fd_marks_of := _, F_marks_of := F_marks_of, b_marks_of := (F_marks_of.bindsN fun _ _ _ _ _ _ us hl => match us, hl with | [_], _ => rfl), g_marks_of := He.glo_ok X G (c.fact 18 (f := .glo "marks_of") rfl), f_require_told := _, fd_require_told := _, F_require_told := F_require_told, b_require_told := (F_require_told.bindsN fun _ _ _ _ _ _ us hl => match us, hl with | [_], _ => rfl), g_require_told := He.glo_ok X G (c.fact 19 (f := .glo "require_told") rfl), f_require_told_form := _, fd_require_told_form := _, F_require_told_form := F_require_told_form, b_require_told_form := (F_require_told_form.bindsN fun _ _ _ _ _ _ us hl => match us, hl with | [_], _ => rfl), g_require_told_form := He.glo_ok X G (c.fact 20 (f := .glo "require_told_form") rfl), f_told_rows := _, fd_told_rows := _, F_told_rows := F_told_rows, b_told_rows := (F_told_rows.bindsN fun _ _ _ _ _ _ us hl => match us, hl with | [_], _ => rfl), g_told_rows := He.glo_ok X G (c.fact 21 (f := .glo "told_rows") rfl), f_told_at := _, fd_told_at := _, F_told_at := F_told_at, b_told_at := (F_told_at.bindsN fun _ _ _ _ _ _ us hl => match us, hl with | [_], _ => rfl), g_told_at := He.glo_ok X G (c.fact 22 (f := .glo "told_at") rfl), f_member_marks := _, fd_member_marks := _, F_member_marks := F_member_marks, b_member_marks := (F_member_marks.bindsN fun _ _ _ _ _ _ us hl => match us, hl with | [_], _ => rfl), g_member_marks := He.glo_ok X G (c.fact 23 (f := .glo "member_marks") rfl), f_law_dice := _, fd_law_dice := _, F_law_dice := F_law_dice, b_law_dice := (F_law_dice.bindsN fun _ _ _ _ _ _ us hl => match us, hl with | [_, _], _ => rfl), g_law_dice := He.glo_ok X G (c.fact 24 (f := .glo "_law_dice") rfl), f_law_roll := _, fd_law_roll := _, F_law_roll := F_law_roll, b_law_roll := (F_law_roll.bindsN fun _ _ _ _ _ _ us hl => match us, hl with | [_, _], _ => rfl), g_law_roll := He.glo_ok X G (c.fact 25 (f := .glo "_law_roll") rfl), f_law_near := _, fd_law_near := _, F_law_near := F_law_near, b_law_near := (F_law_near.bindsN fun _ _ _ _ _ _ us hl => match us, hl with | [_, _], _ => rfl), g_law_near := He.glo_ok X G (c.fact 26 (f := .glo "_law_near") rfl), f_law_raised := _, fd_law_raised := _, F_law_raised := F_law_raised, b_law_raised := (F_law_raised.bindsN fun _ _ _ _ _ _ us hl => match us, hl with | [_, _], _ => rfl), g_law_raised := He.glo_ok X G (c.fact 27 (f := .glo "_law_raised") rfl), f_law_choose := _, fd_law_choose := _, F_law_choose := F_law_choose, b_law_choose := (F_law_choose.bindsN fun _ _ _ _ _ _ us hl => match us, hl with | [_, _], _ => rfl), g_law_choose := He.glo_ok X G (c.fact 28 (f := .glo "_law_choose") rfl), f_law_plus := _, fd_law_plus := _, F_law_plus := F_law_plus, b_law_plus := (F_law_plus.bindsN fun _ _ _ _ _ _ us hl => match us, hl with | [_, _], _ => rfl), g_law_plus := He.glo_ok X G (c.fact 29 (f := .glo "_law_plus") rfl), f_law_scaled := _, fd_law_scaled := _, F_law_scaled := F_law_scaled, b_law_scaled := (F_law_scaled.bindsN fun _ _ _ _ _ _ us hl => match us, hl with | [_, _], _ => rfl), g_law_scaled := He.glo_ok X G (c.fact 30 (f := .glo "_law_scaled") rfl), f_law_product := _, fd_law_product := _, F_law_product := F_law_product, b_law_product := (F_law_product.bindsN fun _ _ _ _ _ _ us hl => match us, hl with | [_, _], _ => rfl), g_law_product := He.glo_ok X G (c.fact 31 (f := .glo "_law_product") rfl), f_law_power := _, fd_law_power := _, F_law_power := F_law_power, b_law_power := (F_law_power.bindsN fun _ _ _ _ _ _ us hl => match us, hl with | [_, _], _ => rfl), g_law_power := He.glo_ok X G (c.fact 32 (f := .glo "_law_power") rfl), f_law_by_x := _, fd_law_by_x := _, F_law_by_x := F_law_by_x, b_law_by_x := (F_law_by_x.bindsN fun _ _ _ _ _ _ us hl => match us, hl with | [_], _ => rfl), g_law_by_x := He.glo_ok X G (c.fact 33 (f := .glo "_law_by_x") rfl), f_law_by_y := _, fd_law_by_y := _, F_law_by_y := F_law_by_y, b_law_by_y := (F_law_by_y.bindsN fun _ _ _ _ _ _ us hl => match us, hl with | [_], _ => rfl), g_law_by_y := He.glo_ok X G (c.fact 34 (f := .glo "_law_by_y") rfl), f_law_derived := _, fd_law_derived := _, F_law_derived := F_law_derived, b_law_derived := (F_law_derived.bindsN fun _ _ _ _ _ _ us hl => match us, hl with | [_, _, _], _ => rfl), g_law_derived := He.glo_ok X G (c.fact 35 (f := .glo "_law_derived") rfl), f_law_laid := _, fd_law_laid := _, F_law_laid := F_law_laid, b_law_laid := (F_law_laid.bindsN fun _ _ _ _ _ _ us hl => match us, hl with | [_, _, _], _ => rfl), g_law_laid := He.glo_ok X G (c.fact 36 (f := .glo "_law_laid") rfl), f_law_changed := _, fd_law_changed := _, F_law_changed := F_law_changed, b_law_changed := (F_law_changed.bindsN fun _ _ _ _ _ _ us hl => match us, hl with | [_, _], _ => rfl), g_law_changed := He.glo_ok X G (c.fact 37 (f := .glo "_law_changed") rfl), f_law_table := _, fd_law_table := _, F_law_table := F_law_table, b_law_table := (F_law_table.bindsN fun _ _ _ _ _ _ us hl => match us, hl with | [_, _], _ => rfl), g_law_table := He.glo_ok X G (c.fact 38 (f := .glo "_law_table") rfl), f_law_det := _, fd_law_det := _, F_law_det := F_law_det, b_law_det := (F_law_det.bindsN fun _ _ _ _ _ _ us hl => match us, hl with | [_], _ => rfl), g_law_det := He.glo_ok X G (c.fact 39 (f := .glo "_law_det") rfl), f_law_told_row_list := _, fd_law_told_row_list := _, F_law_told_row_list := F_law_told_row_list, b_law_told_row_list := (F_law_told_row_list.bindsN fun _ _ _ _ _ _ us hl => match us, hl with | [_], _ => rfl), g_law_told_row_list := He.glo_ok X G (c.fact 40 (f := .glo "_law_told_row_list") rfl), f_law_marks_of := _, fd_law_marks_of := _, F_law_marks_of := F_law_marks_of, b_law_marks_of := (F_law_marks_of.bindsN fun _ _ _ _ _ _ us hl => match us, hl with | [_], _ => rfl), g_law_marks_of := He.glo_ok X G (c.fact 41 (f := .glo "_law_marks_of") rfl), f_law_members_of := _, fd_law_members_of := _, F_law_members_of := F_law_members_of, b_law_members_of := (F_law_members_of.bindsN fun _ _ _ _ _ _ us hl => match us, hl with | [_], _ => rfl), g_law_members_of := He.glo_ok X G (c.fact 42 (f := .glo "_law_members_of") rfl), f_law_right := _, fd_law_right := _, F_law_right := F_law_right, b_law_right := (F_law_right.bindsN fun _ _ _ _ _ _ us hl => match us, hl with | [_, _], _ => rfl), g_law_right := He.glo_ok X G (c.fact 43 (f := .glo "_law_right") rfl), f_law := _, fd_law := _, F_law := F_law, b_law := (F_law.bindsN fun _ _ _ _ _ _ us hl => match us, hl with | [_], _ => rfl), g_law := He.glo_ok X G (c.fact 44 (f := .glo "law") rfl), f_Told_init := _, fd_Told_init := _, F_Told_init := F_Told_init, b_Told_init := (F_Told_init.bindsN fun _ _ _ _ _ _ us hl => match us, hl with | [_, _], _ => rfl), f_Form_init := _, fd_Form_init := _, F_Form_init := F_Form_init, b_Form_init := (F_Form_init.bindsN fun _ _ _ _ _ _ us hl => match us, hl with | [_, _], _ => rfl), f_Form_entries := _, fd_Form_entries := _, F_Form_entries := F_Form_entries, b_Form_entries := (F_Form_entries.bindsN fun _ _ _ _ _ _ us hl => match us, hl with | [_], _ => rfl), f_Form_degree := _, fd_Form_degree := _, F_Form_degree := F_Form_degree, b_Form_degree := (F_Form_degree.bindsN fun _ _ _ _ _ _ us hl => match us, hl with | [_], _ => rfl), f_Form_is_zero := _, fd_Form_is_zero := _, F_Form_is_zero := F_Form_is_zero, b_Form_is_zero := (F_Form_is_zero.bindsN fun _ _ _ _ _ _ us hl => match us, hl with | [_], _ => rfl), f_Form_eq := _, fd_Form_eq := _, F_Form_eq := F_Form_eq, b_Form_eq := (F_Form_eq.bindsN fun _ _ _ _ _ _ us hl => match us, hl with | [_, _], _ => rfl), C_Told := He.ga K "Told", g_Told := He.glo_ok X G (c.fact 45 (f := .glo "Told") rfl), mk_Told := He.mkr_ok (c.fact 67 (f := .mkr "Told") rfl), C_Form := He.ga K "Form", g_Form := He.glo_ok X G (c.fact 46 (f := .glo "Form") rfl), mk_Form := He.mkr_ok (c.fact 68 (f := .mkr "Form") rfl), z_abs := He.free_ok X G (c.fact 47 (f := .free "abs") rfl), z_all := He.free_ok X G (c.fact 48 (f := .free "all") rfl), z_any := He.free_ok X G (c.fact 49 (f := .free "any") rfl), z_bool := He.free_ok X G (c.fact 50 (f := .free "bool") rfl), z_enumerate := He.free_ok X G (c.fact 51 (f := .free "enumerate") rfl), z_int := He.free_ok X G (c.fact 52 (f := .free "int") rfl), z_isinstance := He.free_ok X G (c.fact 53 (f := .free "isinstance") rfl), z_len := He.free_ok X G (c.fact 54 (f := .free "len") rfl), z_list := He.free_ok X G (c.fact 55 (f := .free "list") rfl), z_max := He.free_ok X G (c.fact 56 (f := .free "max") rfl), z_min := He.free_ok X G (c.fact 57 (f := .free "min") rfl), z_range := He.free_ok X G (c.fact 58 (f := .free "range") rfl), z_tuple := He.free_ok X G (c.fact 59 (f := .free "tuple") rfl), z_zip := He.free_ok X G (c.fact 60 (f := .free "zip") rfl), c_GREATEST := He.int_ok X G (c.fact 61 (f := .int "GREATEST" 1000000000000000000000000000000000000000000000000000000000000) rfl), c_MAX_DEGREE := He.int_ok X G (c.fact 62 (f := .int "MAX_DEGREE" 40) rfl), c_MOST_ROWS := He.int_ok X G (c.fact 63 (f := .int "MOST_ROWS" 24) rfl), c_MOST_SIZE := He.int_ok X G (c.fact 64 (f := .int "MOST_SIZE" 24) rfl), c_MOST_LAID := He.int_ok X G (c.fact 65 (f := .int "MOST_LAID" 40) rfl), c_TRIPLE := He.int_ok X G (c.fact 66 (f := .int "TRIPLE" 3) rfl), c_ROW := He.str_ok X G (c.fact 69 (f := .str "ROW" "row") rfl), C_Refused := _, fI_Refused := _, cc_Refused := _, cd_Refused := _, sup_Refused := HookS.SD.sup (d := sd_Refused) X G (cS.s 0 (d := sd_Refused) rfl) ex, oc_Told := OwnF.ocB_ok ex_0, a_own_row := _, sl_own_row := HookG.slotB_ok ex_1 (by decide), oc_Form := OwnF.ocB_ok ex_2, a_own_entries := _, sl_own_entries := HookG.slotB_ok ex_3 (by decide), mt_Told_init := HookG.mtB_ok ex_4, mt_Form_init := HookG.mtB_ok ex_5, p_Form_entries := _, pr_Form_entries := HookG.prB_ok ex_6, p_Form_degree := _, pr_Form_degree := HookG.prB_ok ex_7, p_Form_is_zero := _, pr_Form_is_zero := HookG.prB_ok ex_8, mt_Form_eq := HookG.mtB_ok ex_9, kit_Told_Form := HookG.dO_ok ex_10, kit_Form_Told := HookG.dO_ok ex_11, A_TOLD := _, t_TOLD := DictT.dictB_ok X G ex_12 }⟩

end K40

set_option Elab.async false
set_option linter.all false
set_option maxRecDepth 100000
set_option maxHeartbeats 0
namespace K40
open PySem PySem.Spec PyProof.Rows L2
abbrev R : PySem.W.OpenRow := PySem.W.OpenLaw.row PySem.Challenge.rw_sourceforms_k40_whole_told_members
abbrev hk : PySem.W.Hook := HookS.hookS 5 faL fnL exL sdL
def ob (s : PySem.W.SharedT) : HookS.AlS := HookS.obsGS 5 faL fnL exL sdL (HandSHeadRun.getT s)
theorem ob_eq (s : PySem.W.SharedT) : ob s = hk.obs s.abs := HookS.obsGS_eq (HandSHeadRun.getT_eq s)
def loose0 : List Str := ["_wall", "LetterError", "InvalidForm", "InvalidTable", "InvalidPoint", "InvalidRows", "InvalidOperation", "InvalidNumber", "TooMany", "Refused", "GREATEST", "is_whole", "is_short", "is_from", "are_short", "require_short", "require_from", "lots_of", "is_change", "require_change", "MAX_DEGREE", "product_in", "joined_entries", "power_in", "value_in", "changed_in", "derived_in", "is_zero_in", "Told", "are_entries"]
def loose1 : List Str := ["Form", "form_of", "require_form", "sum_in", "MOST_ROWS", "MOST_SIZE", "MOST_LAID", "TRIPLE", "ROW", "laying_slope", "laying_slopes", "add_product", "laid_in", "is_row_triple", "is_row_list", "require_row_list", "run_in", "run_rows", "TOLD", "marks_of", "require_told", "require_told_form", "told_rows", "told_at", "member_marks", "_law_dice", "_law_roll", "_law_near", "_law_raised", "_law_choose"]
def loose2 : List Str := ["_law_plus", "_law_scaled", "_law_product", "_law_power", "_law_by_x", "_law_by_y", "_law_derived", "_law_laid", "_law_changed", "_law_table", "_law_det", "_law_told_row_list", "_law_marks_of", "_law_members_of", "_law_right"]
def loose : List Str := loose0 ++ loose1 ++ loose2
theorem runB (b : Bool) (w : World) : HandSHeadRun.RunEq R (PySem.W.view R.prog [81]) hk ob 12000 loose (w.withFollow "special-get-raises" b) := by
  intro os
  cases b <;> kernel_rfl
theorem run (w : World) : HandSHeadRun.RunEq R (PySem.W.view R.prog [81]) hk ob 12000 loose w := by
  have h := runB (w.params.followText "special-get-raises") w
  rwa [World.withFollow_self] at h
end K40

set_option Elab.async false
set_option linter.all false
set_option maxRecDepth 100000
/-! products of forms: the plain law -/
namespace K40
/-- the entry at a place, 0 behind the end -/
def co (l : List Int) (k : Nat) : Int := l.getD k 0
/-- the entries of a product -/
def cv : List Int → (Nat → Int) → Nat → Int
  | [], _, _ => 0
  | x :: xs, g, k => x * g k + (match k with
    | 0 => 0
    | k + 1 => cv xs g k)
theorem cv_zero (x : Int) (xs : List Int) (g : Nat → Int) : cv (x :: xs) g 0 = x * g 0 := by show x * g 0 + 0 = _; omega
theorem cv_succ (x : Int) (xs : List Int) (g : Nat → Int) (k : Nat) : cv (x :: xs) g (k + 1) = x * g (k + 1) + cv xs g k := rfl
theorem cv_congr {g h : Nat → Int} : ∀ (l : List Int) (k : Nat), (∀ i, i ≤ k → g i = h i) → cv l g k = cv l h k
  | [], _, _ => rfl
  | x :: xs, 0, e => by rw [cv_zero, cv_zero, e 0 (Nat.le_refl _)]
  | x :: xs, k + 1, e => by rw [cv_succ, cv_succ, e (k + 1) (Nat.le_refl _), cv_congr xs k fun i hi => e i (by omega)]
theorem cv_ext {g h : Nat → Int} (l : List Int) (e : ∀ i, g i = h i) (k : Nat) : cv l g k = cv l h k := cv_congr l k fun i _ => e i
theorem cv_add (l : List Int) (g h : Nat → Int) : ∀ k, cv l (fun i => g i + h i) k = cv l g k + cv l h k := by
  induction l with
  | nil => intro k; rfl
  | cons x xs ih =>
    intro k
    cases k with
    | zero => rw [cv_zero, cv_zero, cv_zero, Int.mul_add]
    | succ k => rw [cv_succ, cv_succ, cv_succ, ih, Int.mul_add]; omega
theorem cv_mul (l : List Int) (c : Int) (g : Nat → Int) : ∀ k, cv l (fun i => c * g i) k = c * cv l g k := by
  induction l with
  | nil => intro k; show (0 : Int) = c * 0; rw [Int.mul_zero]
  | cons x xs ih =>
    intro k
    cases k with
    | zero => rw [cv_zero, cv_zero]; rw [← Int.mul_assoc, Int.mul_comm x c, Int.mul_assoc]
    | succ k => rw [cv_succ, cv_succ, ih, Int.mul_add, ← Int.mul_assoc, Int.mul_comm x c, Int.mul_assoc]
theorem cv_zeroF (l : List Int) : ∀ k, cv l (fun _ => 0) k = 0 := by
  induction l with
  | nil => intro k; rfl
  | cons x xs ih =>
    intro k
    cases k with
    | zero => rw [cv_zero, Int.mul_zero]
    | succ k => rw [cv_succ, ih, Int.mul_zero]; rfl
/-- what is moved by one place -/
def sh (g : Nat → Int) : Nat → Int
  | 0 => 0
  | k + 1 => g k
theorem cv_sh (l : List Int) (g : Nat → Int) : ∀ k, cv l (sh g) k = sh (cv l g) k := by
  induction l with
  | nil => intro k; cases k <;> rfl
  | cons x xs ih =>
    intro k
    cases k with
    | zero => rw [cv_zero]; show x * 0 = 0; rw [Int.mul_zero]
    | succ k =>
      rw [cv_succ, ih]
      show x * g k + sh (cv xs g) k = cv (x :: xs) g k
      cases k with
      | zero => rw [cv_zero]; show x * g 0 + 0 = x * g 0; omega
      | succ k => rw [cv_succ] <;> rfl
theorem cv_cons (x : Int) (xs : List Int) (g : Nat → Int) (k : Nat) : cv (x :: xs) g k = x * g k + sh (cv xs g) k := by
  cases k with
  | zero => rw [cv_zero]; show x * g 0 = x * g 0 + 0; omega
  | succ k => rw [cv_succ] <;> rfl
theorem co_cons (x : Int) (xs : List Int) (k : Nat) : co (x :: xs) k = (if k = 0 then x else 0) + sh (co xs) k := by
  cases k with
  | zero => show x = x + 0; omega
  | succ k =>
    show co xs k = (if k + 1 = 0 then x else 0) + co xs k
    rw [if_neg (by omega)]
    omega
/-- a constant times -/
theorem cv_one (l : List Int) : ∀ k, cv l (fun i => if i = 0 then 1 else 0) k = co l k := by
  induction l with
  | nil => intro k; rfl
  | cons x xs ih =>
    intro k
    cases k with
    | zero => rw [cv_zero, if_pos rfl, Int.mul_one]; rfl
    | succ k => rw [cv_succ, if_neg (by omega), Int.mul_zero, ih]; show 0 + co xs k = co xs k; omega
theorem cv_delta (l : List Int) (x : Int) (k : Nat) : cv l (fun i => if i = 0 then x else 0) k = x * co l k := by
  rw [← cv_one l k, ← cv_mul]
  refine cv_ext l (fun i => ?_) k
  by_cases h : i = 0
  · rw [if_pos h, if_pos h, Int.mul_one]
  · rw [if_neg h, if_neg h, Int.mul_zero]
theorem cv_comm (l m : List Int) : ∀ k, cv l (co m) k = cv m (co l) k := by
  induction l with
  | nil =>
    intro k
    rw [show cv m (co []) k = cv m (fun _ => 0) k from cv_ext m (fun i => rfl) k, cv_zeroF]
    rfl
  | cons x xs ih =>
    intro k
    rw [cv_cons, cv_ext m (h := fun i => (if i = 0 then x else 0) + sh (co xs) i) (fun i => co_cons x xs i), cv_add, cv_delta, cv_sh]
    congr 1
    cases k with
    | zero => rfl
    | succ k => exact ih k
theorem cv_far {g : Nat → Int} {b : Nat} (hb : 1 ≤ b) (hg : ∀ i, b ≤ i → g i = 0) : ∀ (l : List Int) (k : Nat), l.length + b ≤ k + 1 → cv l g k = 0
  | [], _, _ => rfl
  | x :: xs, 0, h => by rw [List.length_cons] at h; omega
  | x :: xs, k + 1, h => by
    rw [List.length_cons] at h
    rw [cv_succ, hg _ (by omega), Int.mul_zero, cv_far hb hg xs k (by omega)]
    rfl
/-- the first n values -/
def tb (n : Nat) (f : Nat → Int) : List Int := (List.range n).map f
theorem tb_len (n : Nat) (f : Nat → Int) : (tb n f).length = n := by
  unfold tb
  rw [List.length_map, List.length_range]
theorem co_tb {n : Nat} {f : Nat → Int} (k : Nat) : co (tb n f) k = if k < n then f k else 0 := by
  unfold co tb
  rw [List.getD_eq_getElem?_getD, List.getElem?_map]
  by_cases h : k < n
  · rw [List.getElem?_range h, if_pos h]
    rfl
  · rw [List.getElem?_eq_none (by rw [List.length_range]; omega), if_neg h]
    rfl
theorem co_far {l : List Int} {i : Nat} (h : l.length ≤ i) : co l i = 0 := by
  unfold co
  rw [List.getD_eq_getElem?_getD, List.getElem?_eq_none h]
  rfl
theorem co_get {l : List Int} {i : Nat} (h : i < l.length) : co l i = l[i] := by
  unfold co
  rw [List.getD_eq_getElem?_getD, List.getElem?_eq_getElem h]
  rfl
theorem co_inj {l m : List Int} (hl : l.length = m.length) (h : ∀ i, co l i = co m i) : l = m := by
  refine List.ext_getElem hl fun i h1 h2 => ?_
  rw [← co_get h1, ← co_get h2, h]
theorem tb_co (l : List Int) : tb l.length (co l) = l := co_inj (tb_len _ _) fun i => by
  rw [co_tb]
  split
  · rfl
  · exact (co_far (by omega)).symm
/-- the product of two forms -/
def ml (l m : List Int) : List Int := tb (l.length + m.length - 1) (cv l (co m))
theorem ml_len (l m : List Int) : (ml l m).length = l.length + m.length - 1 := tb_len _ _
theorem co_ml {l m : List Int} (hm : m ≠ []) (k : Nat) : co (ml l m) k = cv l (co m) k := by
  unfold ml
  rw [co_tb]
  by_cases h : k < l.length + m.length - 1
  · rw [if_pos h]
  · rw [if_neg h]
    have h1 : 0 < m.length := List.length_pos_iff.mpr hm
    exact (cv_far (b := m.length) (by omega) (fun i hi => co_far hi) l k (by omega)).symm
theorem ml_comm (l m : List Int) : ml l m = ml m l := by
  unfold ml
  rw [Nat.add_comm]
  unfold tb
  exact List.map_congr_left fun k _ => cv_comm l m k
theorem ml_ne {l m : List Int} (hl : l ≠ []) (hm : m ≠ []) : ml l m ≠ [] := by
  intro e
  have h := ml_len l m
  rw [e] at h
  have h1 : 0 < m.length := List.length_pos_iff.mpr hm
  have h2 : 0 < l.length := List.length_pos_iff.mpr hl
  have : 0 = l.length + m.length - 1 := h
  omega
/-- entry by entry -/
def pl (l m : List Int) : List Int := List.zipWith (· + ·) l m
theorem pl_len {l m : List Int} (h : l.length = m.length) : (pl l m).length = l.length := by
  unfold pl
  rw [List.length_zipWith, h, Nat.min_self]
end K40

set_option Elab.async false
set_option linter.all false
set_option maxRecDepth 100000
/-! the contents of forms -/
namespace K40
theorem least (P : Nat → Prop) (n : Nat) (h : P n) : ∃ m, P m ∧ ∀ k, P k → m ≤ k := by
  induction n using Nat.strongRecOn with
  | _ n ih =>
    by_cases c : ∃ k, k < n ∧ P k
    · obtain ⟨k, hk, pk⟩ := c
      exact ih k hk pk
    · exact ⟨n, h, fun k pk => Nat.le_of_not_lt fun z => c ⟨k, z, pk⟩⟩
structure Prm (p : Nat) : Prop where
  gt : 1 < p
  pr : ∀ a b : Nat, p ∣ a * b → p ∣ a ∨ p ∣ b
theorem Prm.int {p : Nat} (h : Prm p) {x y : Int} (d : (p : Int) ∣ x * y) : (p : Int) ∣ x ∨ (p : Int) ∣ y := by
  have e := Int.natAbs_dvd_natAbs.mpr d
  rw [Int.natAbs_mul] at e
  rcases h.pr _ _ e with e | e
  · exact .inl (Int.natAbs_dvd_natAbs.mp e)
  · exact .inr (Int.natAbs_dvd_natAbs.mp e)
/-- the greatest common divisor of all -/
def cont : List Int → Nat
  | [] => 0
  | x :: xs => Nat.gcd x.natAbs (cont xs)
theorem co_mem {l : List Int} {k : Nat} : co l k = 0 ∨ co l k ∈ l := by
  by_cases h : k < l.length
  · rw [co_get h]
    exact .inr (List.getElem_mem h)
  · exact .inl (co_far (by omega))
theorem co_map (c : Int) (l : List Int) (k : Nat) : co (l.map (c * ·)) k = c * co l k := by
  by_cases h : k < l.length
  · rw [co_get (by rw [List.length_map]; exact h), co_get h, List.getElem_map]
  · rw [co_far (by rw [List.length_map]; omega), co_far (by omega), Int.mul_zero]
end K40

set_option Elab.async false
set_option linter.all false
set_option maxRecDepth 100000
set_option maxHeartbeats 4000000
namespace K40
open PySem PySem.Spec PyProof.Rows L2 MyR SlX OwnR OwnF
/-- an int of at most sixty digits -/
def Sho (i : Int) : Prop := i.natAbs < 10 ^ 60
theorem Same.rf (H : Hp) : Same H H := fun _ _ h => h
@[elab_as_elim] theorem gen_upd {G : Hp → Prop} (H : Hp) (p : Addr) (o : HO) (n : H p = none) (h : ∀ H', Same H H' → H' p = some o → G H') : G (upd H p o) := h _ (same_upd0 n) upd_same
section
variable {P : Program} {w : World} {K : PySem.W.Frag} {mg : Str → Option Value} {base : Heap}
def spWhole : Sp := fun vs H Q _ => ∃ i : Int, vs = [.int i] ∧ Q (.bl true) H
theorem ok_is_whole (T : Facts K mg) : FnOk P w K mg base CX0 1 T.f_is_whole T.fd_is_whole ["value"] spWhole := by
  refine T.F_is_whole.ok sc_is_whole (fun vs H Q E h => ?_) (fun cdv A outer s H vs Q E hr h => ?_)
  · obtain ⟨i, rfl, _⟩ := h
    rfl
  · obtain ⟨i, rfl, q⟩ := h
    refine ⟨_, (PSs.nox (pss_one (ps_ret (pe_and (pe_callB call_isi (by rfl) T.z_isinstance (by decide +kernel) (pa_cons (pv 0) (pa_cons (pe_bltn (v := .ty "int") (by rfl) T.z_int (by decide +kernel) rfl) pa_nil))) (pe_one (pe_not (pe_callB call_isi (by rfl) T.z_isinstance (by decide +kernel) (pa_cons (pv 0) (pa_cons (pe_bltn (v := .ty "bool") (by rfl) T.z_bool (by decide +kernel) rfl) pa_nil))))))))), ?_⟩
    refine ⟨_, rfl, .int i, .ty "int", .type "int", .type "int", true, rfl, .ty "int", .base (.int i), kit_ty (show kitB "int" "int" = some true by decide +kernel), true, rfl, iteT ?_⟩
    exact ⟨_, rfl, .int i, .ty "bool", .type "int", .type "bool", false, rfl, .ty "bool", .base (.int i), kit_ty (show kitB "int" "bool" = some false by decide +kernel), false, rfl, q⟩
def spShort : Sp := fun vs H Q _ => ∃ i : Int, vs = [.int i] ∧ Sho i ∧ Q (.bl true) H
theorem ok_is_short (T : Facts K mg) : FnOk P w K mg base CX0 2 T.f_is_short T.fd_is_short ["value"] spShort := by
  have G_is_whole : FnOk P w K mg base CX0 1 T.f_is_whole T.fd_is_whole ["value"] spWhole := ok_is_whole T
  refine T.F_is_short.ok sc_is_short (fun vs H Q E h => ?_) (fun cdv A outer s H vs Q E hr h => ?_)
  · obtain ⟨i, rfl, _⟩ := h
    rfl
  · obtain ⟨i, rfl, hi, q⟩ := h
    have e60 : (10 : Nat) ^ 60 = 1000000000000000000000000000000000000000000000000000000000000 := by decide
    unfold Sho at hi
    rw [e60] at hi
    refine ⟨_, (PSs.nox (pss_one (ps_ret (pe_and (pe_call G_is_whole hr (by rfl) T.g_is_whole T.F_is_whole.kp T.b_is_whole .nil pass0 (pa_cons (pv 0) pa_nil)) (pe_one (pe_chain op_lt op_lt (pe_un un_neg (pe_glob (v := .int 1000000000000000000000000000000000000000000000000000000000000) (by rfl) T.c_GREATEST.choose_spec ⟨_, rfl⟩)) (pv 0) (pe_glob (v := .int 1000000000000000000000000000000000000000000000000000000000000) (by rfl) T.c_GREATEST.choose_spec ⟨_, rfl⟩))))))), ?_⟩
    refine ⟨_, rfl, i, rfl, true, rfl, iteT ⟨_, rfl, _, rfl, _, i, rfl, rfl, true, ?_, iteT ⟨i, _, rfl, rfl, ?_⟩⟩⟩
    · show V.bl (decide (-1000000000000000000000000000000000000000000000000000000000000 < i)) = V.bl true
      rw [decide_eq_true (by omega)]
    · show Q (V.bl (decide (i < 1000000000000000000000000000000000000000000000000000000000000))) H
      rw [decide_eq_true (by omega)]
      exact q
/-- a tuple of ints -/
abbrev tp (ns : List Int) : HO := .tup (ns.map V.int)
def spAreShort : Sp := fun vs H Q _ => ∃ (t : Addr) (ns : List Int), vs = [.ref t] ∧ H t = some (tp ns) ∧ ns.length ≤ 1000 ∧ (∀ x ∈ ns, Sho x) ∧ ∀ H', Same H H' → Q (.bl true) H'
theorem ok_are_short (T : Facts K mg) : FnOk P w K mg base CX0 3 T.f_are_short T.fd_are_short ["value"] spAreShort := by
  have G_is_short : FnOk P w K mg base CX0 2 T.f_is_short T.fd_is_short ["value"] spShort := ok_is_short T
  refine T.F_are_short.ok sc_are_short (fun vs H Q E h => ?_) (fun cdv A outer s H vs Q E hr h => ?_)
  · obtain ⟨t, ns, rfl, _⟩ := h
    rfl
  · obtain ⟨t, ns, rfl, ht, hl, hs, q⟩ := h
    refine ⟨_, (PSs.nox (pss_one (ps_ret (pe_and (pe_callB call_isi (by rfl) T.z_isinstance (by decide +kernel) (pa_cons (pv 0) (pa_cons (pe_bltn (v := .ty "tuple") (by rfl) T.z_tuple (by decide +kernel) rfl) pa_nil))) (pe_one (pe_callB (cr_all (by rfl)) (by rfl) T.z_all (by decide +kernel) (pa_cons (pe_lc (own := [("entry", 1)]) (g := (gName 1)) (tt := tYes) (by rfl) sc_are_short.nd (pi_tup (pv 0)) (blkOk_by (N := N_are_short) (sc := defScope s_are_short) (by decide +kernel)) (fun _ _ _ _ _ => (pg_name (i := 1) sc_are_short.nd rfl (.inl rfl))) (fun _ _ _ _ _ => pts_nil) (fun _ _ _ _ _ => (pe_call G_is_short hr (by rfl) T.g_is_short T.F_is_short.kp T.b_is_short .nil pass0 (pa_cons (pv 1) pa_nil)))) pa_nil))))))), ?_⟩
    refine ⟨_, rfl, .ref t, .ty "tuple", .type "tuple", .type "tuple", true, rfl, .ty "tuple", .base (.tup ht), kit_ty (show kitB "tuple" "tuple" = some true by decide +kernel), true, rfl, iteT ?_⟩
    refine ⟨_, rfl, t, rfl, ⟨_, SqT.of ht⟩, fun D hD => lc_tup (xs := ns.map V.int) (fun i H' => H' = upd H D (.lst (List.replicate i (V.bl true)))) rfl (fun i H' hi hP => ?_) (fun i x H' hi hP => ?_) (fun H' hP => ?_)⟩
    · rw [hP]
      exact SqT.of (same_upd0 hD _ _ ht)
    · subst hP
      rw [List.getElem?_map] at hi
      obtain ⟨y, hy, rfl⟩ := Option.map_eq_some_iff.mp hi
      have hlt : i < ns.length := (List.getElem?_eq_some_iff.mp hy).1
      refine ⟨rfl, ⟨_, rfl, y, rfl, hs y (List.mem_of_getElem? hy), _, upd_same, ?_, ?_⟩⟩
      · rw [List.length_replicate]
        exact small1000 (by omega)
      · rw [upd_upd, List.replicate_succ']
    · subst hP
      rw [List.length_map]
      refine ⟨D, List.replicate ns.length true, rfl, SqL.of (by rw [upd_same, List.map_replicate]), ?_⟩
      have e : (List.replicate ns.length true).all id = true := by
        rw [List.all_eq_true]
        intro x hx
        rw [(List.mem_replicate.mp hx).2]
        rfl
      rw [e]
      exact q _ (same_upd0 hD)
def spAreEntries : Sp := fun vs H Q _ => ∃ (t : Addr) (ns : List Int), vs = [.ref t] ∧ H t = some (tp ns) ∧ 1 ≤ ns.length ∧ ns.length ≤ 41 ∧ (∀ x ∈ ns, Sho x) ∧ ∀ H', Same H H' → Q (.bl true) H'
theorem ok_are_entries (T : Facts K mg) : FnOk P w K mg base CX0 4 T.f_are_entries T.fd_are_entries ["value"] spAreEntries := by
  have G_are_short : FnOk P w K mg base CX0 3 T.f_are_short T.fd_are_short ["value"] spAreShort := ok_are_short T
  refine T.F_are_entries.ok sc_are_entries (fun vs H Q E h => ?_) (fun cdv A outer s H vs Q E hr h => ?_)
  · obtain ⟨t, ns, rfl, _⟩ := h
    rfl
  · obtain ⟨t, ns, rfl, ht, h1, h41, hs, q⟩ := h
    refine ⟨_, (PSs.nox (pss_one (ps_ret (pe_and (pe_call G_are_short hr (by rfl) T.g_are_short T.F_are_short.kp T.b_are_short .nil pass0 (pa_cons (pv 0) pa_nil)) (pe_one (pe_chain op_le op_le pe_int (pe_callB call_len_seq (by rfl) T.z_len (by decide +kernel) (pa_cons (pv 0) pa_nil)) (pe_op op_add (pe_glob (v := .int 40) (by rfl) T.c_MAX_DEGREE.choose_spec ⟨_, rfl⟩) pe_int))))))), ?_⟩
    refine ⟨_, rfl, t, ns, rfl, ht, by omega, hs, fun H1 s1 => ⟨true, rfl, iteT ?_⟩⟩
    have ht1 := s1 _ _ ht
    refine ⟨_, rfl, t, _, rfl, .inr (SqT.of ht1), 1, _, rfl, rfl, true, ?_, iteT ⟨_, _, rfl, rfl, _, _, rfl, rfl, ?_⟩⟩
    · rw [List.length_map]
      show V.bl (decide ((1 : Int) ≤ (ns.length : Int))) = V.bl true
      rw [decide_eq_true (by omega)]
    · rw [List.length_map]
      show Q (V.bl (decide ((ns.length : Int) ≤ 40 + 1))) H1
      rw [decide_eq_true (by omega)]
      exact q H1 s1
/-! ### making a form -/
/-- a form with these entries -/
def Fo (C : Addr) (H : Hp) (a : Addr) (ns : List Int) : Prop := ∃ dx t, H a = some (SlO a C dx [some (.ref t)]) ∧ H dx = some (.xd []) ∧ H t = some (tp ns)
theorem Fo.same {C a : Addr} {H H' : Hp} {ns : List Int} (h : Fo C H a ns) (s : Same H H') : Fo C H' a ns := by
  obtain ⟨dx, t, h1, h2, h3⟩ := h
  exact ⟨dx, t, s _ _ h1, s _ _ h2, s _ _ h3⟩
theorem Fo.slt {C a : Addr} {H : Hp} {ns : List Int} (h : Fo C H a ns) : ∃ dx t, Slt H a C dx [some (.ref t)] ∧ H t = some (tp ns) := by
  obtain ⟨dx, t, h1, h2, h3⟩ := h
  exact ⟨dx, t, .inr ⟨h1, h2⟩, h3⟩
/-- Told(row) -/
def spTold (C : Addr) : Sp := fun vs H Q _ => ∃ (x dx : Addr) (v : V), vs = [.ref x, v] ∧ Slt H x C dx [] ∧ Q .non (slH H x C dx [some v])
theorem ok_Told_init (T : Facts K mg) : FnOk P w K mg base CX0 1 T.f_Told_init T.fd_Told_init ["self", "row"] (spTold T.C_Told) := by
  refine T.F_Told_init.ok sc_Told_init (fun vs H Q E h => ?_) (fun cdv A outer s H vs Q E hr h => ?_)
  · obtain ⟨x, dx, v, rfl, _⟩ := h
    rfl
  · obtain ⟨x, dx, v, rfl, hx, q⟩ := h
    refine ⟨_, (PSs.nox (pss_one (ps_sl (pv 0) (pv 1)))), ?_⟩
    exact ⟨_, rfl, _, rfl, x, T.C_Told, dx, T.a_own_row, [], 0, rfl, hx, T.oc_Told.scl, T.sl_own_row, q⟩
/-- Form(entries) -/
def spForm (CT CF : Addr) : Sp := fun vs H Q _ => ∃ (x dx y t : Addr), vs = [.ref x, .ref y] ∧ Slt H x CF dx [] ∧ ((∃ dy, Slt H y CT dy [some (.ref t)]) ∨ ∃ ns, y = t ∧ H t = some (tp ns) ∧ 1 ≤ ns.length ∧ ns.length ≤ 41 ∧ ∀ z ∈ ns, Sho z) ∧ ∀ H', Same H H' → Q .non (slH H' x CF dx [some (.ref t)])
theorem Slt.same {C a dx : Addr} {vs : List (Option V)} {H H' : Hp} (h : Slt H a C dx vs) (s : Same H H') : Slt H' a C dx vs := by
  rcases h with ⟨h1, h2⟩ | ⟨h1, h2⟩
  · exact .inl ⟨s _ _ h1, h2⟩
  · exact .inr ⟨s _ _ h1, s _ _ h2⟩
theorem ok_Form_init (T : Facts K mg) : FnOk P w K mg base CX0 5 T.f_Form_init T.fd_Form_init ["self", "entries"] (spForm T.C_Told T.C_Form) := by
  have G_are_entries : FnOk P w K mg base CX0 4 T.f_are_entries T.fd_are_entries ["value"] spAreEntries := ok_are_entries T
  refine T.F_Form_init.ok sc_Form_init (fun vs H Q E h => ?_) (fun cdv A outer s H vs Q E hr h => ?_)
  · obtain ⟨x, dx, y, t, rfl, _⟩ := h
    rfl
  · obtain ⟨x, dx, y, t, rfl, hx, hy, q⟩ := h
    refine ⟨_, (PSs.nox (pss_cons (ps_if (pw_and (pt_not (pt_val (pe_callB (call_isiF T.C_Told) (by rfl) T.z_isinstance (by decide +kernel) (pa_cons (pv 1) (pa_cons (pe_glob (v := .ref T.C_Told) (by rfl) T.g_Told rfl) pa_nil))))) (pw_and1 (pt_not (pt_val (pe_call G_are_entries hr (by rfl) T.g_are_entries T.F_are_entries.kp T.b_are_entries .nil pass0 (pa_cons (pv 1) pa_nil)))))).pt
      (pss_one ps_never)
      pss_nil)
    (pss_one (ps_sl (pv 0) (pe_ifExp (pt_val (pe_callB (call_isiF T.C_Told) (by rfl) T.z_isinstance (by decide +kernel) (pa_cons (pv 1) (pa_cons (pe_glob (v := .ref T.C_Told) (by rfl) T.g_Told rfl) pa_nil)))) (pe_sl (pv 1)) (pv 1)))))), ?_⟩
    rcases hy with ⟨dy, hy⟩ | ⟨ns, rfl, ht, h1, h41, hs⟩
    · refine ⟨_, rfl, .inr ⟨y, T.C_Told, dy, _, .ref T.C_Told, true, rfl, rfl, fun w r => r, hy, T.oc_Told.scl, T.oc_Told.sis, T.oc_Told.kself, true, rfl, iteF ?_⟩⟩
      refine ⟨_, rfl, .inr ⟨y, T.C_Told, dy, _, .ref T.C_Told, true, rfl, rfl, fun w r => r, hy, T.oc_Told.scl, T.oc_Told.sis, T.oc_Told.kself, true, rfl, iteT ?_⟩⟩
      refine ⟨_, rfl, y, T.C_Told, dy, T.a_own_row, _, 0, .ref t, rfl, hy, T.oc_Told.scl, T.sl_own_row, rfl, ?_⟩
      exact ⟨_, rfl, x, T.C_Form, dx, T.a_own_entries, [], 0, rfl, hx, T.oc_Form.scl, T.sl_own_entries, q H (Same.rf H)⟩
    · refine ⟨_, rfl, .inl ⟨.ref y, .ref T.C_Told, .type "tuple", .ref T.C_Told, false, rfl, .own _, .base (.tup ht), T.oc_Told.ktup, false, rfl, iteT ?_⟩⟩
      refine ⟨_, rfl, y, ns, rfl, ht, h1, h41, hs, fun H1 s1 => ⟨true, rfl, iteF ?_⟩⟩
      refine ⟨_, rfl, .inl ⟨.ref y, .ref T.C_Told, .type "tuple", .ref T.C_Told, false, rfl, .own _, .base (.tup (s1 _ _ ht)), T.oc_Told.ktup, false, rfl, iteF ?_⟩⟩
      exact ⟨_, rfl, _, rfl, x, T.C_Form, dx, T.a_own_entries, [], 0, rfl, Slt.same hx s1, T.oc_Form.scl, T.sl_own_entries, q H1 s1⟩
/-- what making leaves -/
theorem made {C x dx : Addr} {v : V} {H' H0 : Hp} (hx : H0 x = none) (hdx : H0 dx = none) (hne : dx ≠ x) (s : Same (upd (upd H0 dx (.own x)) x (.ins C dx [])) H') : Same H0 (slH H' x C dx [some v]) := fun b o e => by
  have h1 : b ≠ x := ne_of_none e hx
  have h2 : b ≠ dx := ne_of_none e hdx
  rw [slH_ne h1 h2]
  exact s _ _ (by rw [upd_ne h1, upd_ne h2]; exact e)
/-- what is made of a row -/
def spMake (C : Addr) : Sp := fun vs H Q _ => ∃ (t : Addr) (ns : List Int), vs = [.ref t] ∧ H t = some (tp ns) ∧ ∀ p H', Same H H' → H p = none → Fo C H' p ns → Q (.ref p) H'
theorem ok_form_of (T : Facts K mg) : FnOk P w K mg base CX0 7 T.f_form_of T.fd_form_of ["entries"] (spMake T.C_Form) := by
  have G_Told_init : FnOk P w K mg base CX0 1 T.f_Told_init T.fd_Told_init ["self", "row"] (spTold T.C_Told) := ok_Told_init T
  have G_Form_init : FnOk P w K mg base CX0 5 T.f_Form_init T.fd_Form_init ["self", "entries"] (spForm T.C_Told T.C_Form) := ok_Form_init T
  refine T.F_form_of.ok sc_form_of (fun vs H Q E h => ?_) (fun cdv A outer s H vs Q E hr h => ?_)
  · obtain ⟨t, ns, rfl, _⟩ := h
    rfl
  · obtain ⟨t, ns, rfl, ht, q⟩ := h
    refine ⟨_, (PSs.nox (pss_one (ps_ret (pe_make T.mk_Form G_Form_init (hr.mono (by decide)) (by rfl) T.g_Form T.b_Form_init .nil pass0 (pa_cons (pe_make T.mk_Told G_Told_init (hr.mono (by decide)) (by rfl) T.g_Told T.b_Told_init .nil pass0 (pa_cons (pv 0) pa_nil)) pa_nil))))), ?_⟩
    refine ⟨_, rfl, fun x dx hx hdx hne => ⟨x, dx, .ref t, rfl, .inl ⟨upd_same, rfl⟩, rfl, ?_⟩⟩
    have s1 : Same H (slH (upd (upd H dx (.own x)) x (.ins T.C_Told dx [])) x T.C_Told dx [some (.ref t)]) := made hx hdx hne (Same.rf _)
    have y1 : Slt (slH (upd (upd H dx (.own x)) x (.ins T.C_Told dx [])) x T.C_Told dx [some (.ref t)]) x T.C_Told dx [some (.ref t)] := slH_slt hne
    generalize slH (upd (upd H dx (.own x)) x (.ins T.C_Told dx [])) x T.C_Told dx [some (.ref t)] = H1 at s1 y1 ⊢
    refine fun x2 dx2 hx2 hdx2 hne2 => ⟨x2, dx2, x, t, rfl, .inl ⟨upd_same, rfl⟩, .inl ⟨dx, ?_⟩, fun H2 s2 => ⟨rfl, ?_⟩⟩
    · exact slt_upd (slt_upd y1 hdx2) (by rw [upd_ne (Ne.symm hne2)]; exact hx2)
    · have s3 : Same H1 (slH H2 x2 T.C_Form dx2 [some (.ref t)]) := made hx2 hdx2 hne2 s2
      have hx0 : H x2 = none := by
        cases e : H x2 with
        | none => rfl
        | some o =>
          have := s1 _ _ e
          rw [hx2] at this
          cases this
      refine q x2 _ (fun b o e => s3 _ _ (s1 _ _ e)) hx0 ⟨dx2, t, upd_same, ?_, s3 _ _ (s1 _ _ ht)⟩
      unfold slH
      rw [upd_ne hne2, upd_same]
end
end K40

set_option Elab.async false
set_option linter.all false
set_option maxRecDepth 100000
set_option maxHeartbeats 4000000
namespace K40
open PySem PySem.Spec PyProof.Rows L2 MyR SlX OwnR OwnF
theorem cv_snoc (x : Int) (g : Nat → Int) : ∀ (l : List Int) (k : Nat), cv (l ++ [x]) g k = cv l g k + (if l.length ≤ k then x * g (k - l.length) else 0)
  | [], k => by
    show cv (x :: []) g k = 0 + (if 0 ≤ k then x * g (k - 0) else 0)
    rw [if_pos (Nat.zero_le k), Nat.sub_zero]
    cases k with
    | zero => rw [cv_zero]; omega
    | succ k => rw [cv_succ]; show x * g (k + 1) + 0 = 0 + x * g (k + 1); omega
  | y :: ys, 0 => by
    show cv (y :: (ys ++ [x])) g 0 = cv (y :: ys) g 0 + (if ys.length + 1 ≤ 0 then _ else 0)
    rw [cv_zero, cv_zero, if_neg (by omega)]
    omega
  | y :: ys, k + 1 => by
    show cv (y :: (ys ++ [x])) g (k + 1) = cv (y :: ys) g (k + 1) + (if ys.length + 1 ≤ k + 1 then x * g (k + 1 - (ys.length + 1)) else 0)
    rw [cv_succ, cv_succ, cv_snoc x g ys k, Nat.add_sub_add_right]
    by_cases h : ys.length ≤ k
    · rw [if_pos h, if_pos (by omega)]; omega
    · rw [if_neg h, if_neg (by omega)]; omega
/-- the entries so far: i rows, and j places of the next one -/
def J (xs : List Int) (g : Nat → Int) (i j k : Nat) : Int := cv (xs.take i) g k + (if i ≤ k ∧ k < i + j then co xs i * g (k - i) else 0)
theorem J_0 {xs : List Int} {g : Nat → Int} {i k : Nat} : J xs g i 0 k = cv (xs.take i) g k := by
  unfold J
  rw [if_neg (by omega)]
  omega
theorem J_step {xs : List Int} {g : Nat → Int} {i j k : Nat} : (if k = i + j then J xs g i j (i + j) + co xs i * g j else J xs g i j k) = J xs g i (j + 1) k := by
  unfold J
  by_cases h : k = i + j
  · subst h
    rw [if_pos rfl, if_neg (by omega), if_pos (by omega), Nat.add_sub_cancel_left]
    omega
  · rw [if_neg h]
    by_cases c : i ≤ k ∧ k < i + j
    · rw [if_pos c, if_pos (by omega)]
    · rw [if_neg c, if_neg (by omega)]
theorem J_end {xs ys : List Int} {i k : Nat} (hi : i < xs.length) : J xs (co ys) i ys.length k = cv (xs.take (i + 1)) (co ys) k := by
  unfold J
  have e : xs.take (i + 1) = xs.take i ++ [xs[i]] := by rw [List.take_add_one, List.getElem?_eq_getElem hi]; rfl
  have hl : (xs.take i).length = i := by rw [List.length_take]; omega
  rw [e, cv_snoc, hl, co_get hi]
  congr 1
  by_cases c : i ≤ k
  · by_cases d : k < i + ys.length
    · rw [if_pos ⟨c, d⟩, if_pos c]
    · rw [if_neg (by omega), if_pos c, co_far (by omega), Int.mul_zero]
  · rw [if_neg (by omega), if_neg c]
def tab (L : Nat) (f : Nat → Int) : List V := (List.range L).map fun k => V.int (f k)
theorem tab_tb (L : Nat) (f : Nat → Int) : tab L f = (tb L f).map V.int := by
  unfold tab tb
  rw [List.map_map]
  rfl
theorem tab_len (L : Nat) (f : Nat → Int) : (tab L f).length = L := by
  unfold tab
  rw [List.length_map, List.length_range]
theorem tab_get {L : Nat} {f : Nat → Int} {k : Nat} (h : k < L) : (tab L f)[k]? = some (.int (f k)) := by
  unfold tab
  rw [List.getElem?_map, List.getElem?_range h]
  rfl
theorem tab_ext {L : Nat} {f g : Nat → Int} (h : ∀ k, k < L → f k = g k) : tab L f = tab L g := by
  unfold tab
  exact List.map_congr_left fun k hk => by rw [h k (List.mem_range.mp hk)]
theorem tab_none {L : Nat} {f : Nat → Int} {k : Nat} (h : L ≤ k) : (tab L f)[k]? = none := List.getElem?_eq_none (by rw [tab_len]; exact h)
theorem tab_set {L : Nat} {f : Nat → Int} {j : Nat} {v : Int} : (tab L f).set j (.int v) = tab L (fun k => if k = j then v else f k) := by
  apply List.ext_getElem?
  intro k
  by_cases hk : k < L
  · rw [tab_get hk]
    by_cases e : k = j
    · subst e
      rw [List.getElem?_set_self (by rw [tab_len]; exact hk), if_pos rfl]
    · rw [List.getElem?_set_ne (Ne.symm e), tab_get hk, if_neg e]
  · rw [tab_none (Nat.le_of_not_lt hk), List.getElem?_eq_none (by rw [List.length_set, tab_len]; exact Nat.le_of_not_lt hk)]
theorem tab_rep (n : Nat) : List.replicate n (V.int 0) = tab n fun _ => 0 := by
  unfold tab
  rw [List.map_const', List.length_range]
theorem ix_at {n : Nat} {z : Int} {j : Nat} (e : z = (j : Int)) (h : j < n) : ixN n z = some j := by
  rw [e]
  exact Evl.ixN_nat h
theorem at_of {xs : List V} {z : Int} {j : Nat} {v : V} (e : z = (j : Int)) (h : xs[j]? = some v) : atI xs z = some v := by
  rw [e]
  exact atI_nat h
/-- ints of less than 400 bits -/
def sm (x : Int) : Prop := x.natAbs < 2 ^ 4000
theorem sm_mul {x y : Int} (hx : sm x) (hy : sm y) : CMulW x y := wide_mul hx hy (by decide) (by decide) (by decide)
theorem get_int {xs : List Int} {i : Nat} (h : i < xs.length) : (xs.map V.int)[i]? = some (.int (co xs i)) := by
  rw [List.getElem?_map, List.getElem?_eq_getElem h, co_get h]
  rfl
theorem sm_co {xs : List Int} {i : Nat} (h : ∀ x ∈ xs, sm x) (hi : i < xs.length) : sm (co xs i) := by
  rw [co_get hi]
  exact h _ (List.getElem_mem hi)
section
variable {P : Program} {w : World} {K : PySem.W.Frag} {mg : Str → Option Value} {base : Heap}
end
end K40

set_option Elab.async false
set_option linter.all false
set_option maxRecDepth 100000
set_option maxHeartbeats 4000000
namespace K40
open PySem PySem.Spec PyProof.Rows L2 StX RZ MyR SlX OwnR OwnF
/-- a comprehension over zip of two tuples of one length -/
theorem lc_zipT {K : PySem.W.Frag} {a b : Addr} {xs ys : List V} {g : TG} {tt : TT} {te : TE} {vs : List Nat} {σ : L2.St} {H1 : Hp} {D : Addr} {Qd : Hp → Prop} (hl : xs.length = ys.length) (Pv : Nat → Hp → Prop) (h0 : Pv 0 (upd H1 D (.lst []))) (hq : ∀ i H, i ≤ xs.length → Pv i H → SqT K H a xs ∧ SqT K H b ys)
    (hs : ∀ (i : Nat) (x y : V) (T : Addr) (H : Hp), xs[i]? = some x → ys[i]? = some y → Pv i H → H T = none → g (.ref T) (wipe σ vs) (upd H T (.tup [x, y])) fun σ2 H2 => wipe σ2 vs = wipe σ vs ∧ tt σ2 H2 fun b H3 =>
      if b = true then te σ2 H3 fun y H4 => ∃ acc, H4 D = some (.lst acc) ∧ acc.length < sizeLine ∧ Pv (i + 1) (upd H4 D (.lst (acc ++ [y]))) else Pv (i + 1) H3) (hd : ∀ H, Pv xs.length H → Qd H) :
    ∃ W : Nat → Nat → Hp → Prop, (∃ m, W 0 m (upd H1 D (.lst []))) ∧ ∀ i m H, W i m H →
      ((ItzT K a b).stop i H ∧ Qd H) ∨ ((ItzT K a b).go i H ∧ ∃ Nx : Hp → Prop, (∀ H', Nx H' → ∃ m', m' < m ∧ W (i + 1) m' H') ∧ ∀ x H', (ItzT K a b).yld i H x H' → g x (wipe σ vs) H' fun σ2 H2 => wipe σ2 vs = wipe σ vs ∧ tt σ2 H2 fun b H3 =>
        if b = true then te σ2 H3 fun y H4 => ∃ acc, H4 D = some (.lst acc) ∧ acc.length < sizeLine ∧ Nx (upd H4 D (.lst (acc ++ [y]))) else Nx H3) := by
  refine ⟨fun i m H => m = xs.length - i ∧ i ≤ xs.length ∧ Pv i H, ⟨xs.length, by simp, Nat.zero_le _, h0⟩, ?_⟩
  rintro i m H ⟨rfl, hi, p⟩
  obtain ⟨qx, qy⟩ := hq i H hi p
  by_cases hlt : i < xs.length
  · have hlt2 : i < ys.length := by omega
    have hx : xs[i]? = some xs[i] := List.getElem?_eq_getElem hlt
    have hy : ys[i]? = some ys[i] := List.getElem?_eq_getElem hlt2
    refine .inr ⟨⟨xs, ys, _, _, qx, qy, hx, hy⟩, Pv (i + 1), fun H' p' => ⟨xs.length - (i + 1), by omega, rfl, hlt, p'⟩, fun v H' y => ?_⟩
    obtain ⟨T, x', y', rfl, hT, rfl, f1, f2⟩ := y
    exact hs i x' y' T H (f1 xs qx) (f2 ys qy) p hT
  · have e : i = xs.length := by omega
    subst e
    exact .inl ⟨⟨xs, ys, qx, qy, Or.inl (Nat.le_refl _)⟩, hd H p⟩
/-- the sign of the first entry that is not 0 -/
def sg : List Int → Int
  | [] => 1
  | x :: xs => if x = 0 then sg xs else if 0 < x then 1 else -1
def part (l : List Int) : Int := (cont l : Int) * sg l
theorem tb_map (f : Int → Int) (l : List Int) : (tb l.length fun k => f (co l k)) = l.map f := by
  conv => rhs; rw [← tb_co l]
  unfold tb
  rw [List.map_map]
  rfl
section
variable {P : Program} {w : World} {K : PySem.W.Frag} {mg : Str → Option Value} {base : Heap}
def spZero : Sp := fun vs H Q _ => ∃ (t : Addr) (ns : List Int), vs = [.ref t] ∧ H t = some (tp ns) ∧ Q (.bl (!ns.any (· != 0))) H
theorem ok_is_zero_in (T : Facts K mg) : FnOk P w K mg base CX0 1 T.f_is_zero_in T.fd_is_zero_in ["entries"] spZero := by
  refine T.F_is_zero_in.ok sc_is_zero_in (fun vs H Q E h => ?_) (fun cdv A outer s H vs Q E hr h => ?_)
  · obtain ⟨t, ns, rfl, _⟩ := h
    rfl
  · obtain ⟨t, ns, rfl, ht, q⟩ := h
    refine ⟨_, (PSs.nox (pss_one (ps_ret (pe_not (pe_callB (cr_anyTI (by rfl)) (by rfl) T.z_any (by decide +kernel) (pa_cons (pv 0) pa_nil)))))), ?_⟩
    exact ⟨_, rfl, t, ns, rfl, SqT.of ht, _, rfl, q⟩
/-- the sum of one row and a multiple of the other -/
def zs (c : Int) (xs ys : List Int) : List Int := List.zipWith (fun x y => x + c * y) xs ys
end
end K40

set_option Elab.async false
set_option linter.all false
set_option maxRecDepth 100000
set_option maxHeartbeats 4000000
namespace K40
open PySem PySem.Spec PyProof.Rows L2 StX RZ MyR SlX OwnR OwnF
/-! ### == of tuples of ints -/
theorem dpAll_ints {K : PySem.W.Frag} {H : Hp} : ∀ ns : List Int, DpAll K H (ns.map V.int) (ns.map PyData.int)
  | [] => .nil
  | n :: r => .cons (.int n) (dpAll_ints r)
theorem lay_ints : ∀ ns : List Int, PyData.canLayAll0 (ns.map PyData.int) = true
  | [] => rfl
  | n :: r => by
    show (PyData.canLay0 (.int n) && PyData.canLayAll0 (r.map PyData.int)) = true
    rw [lay_ints r]
    rfl
theorem depth_ints : ∀ ns : List Int, PyData.depthAll (ns.map PyData.int) = 0
  | [] => rfl
  | n :: r => by
    show max (PyData.depth (.int n)) (PyData.depthAll (r.map PyData.int)) = 0
    rw [depth_ints r]
    rfl
theorem shaped_tints (ns : List Int) : SeqAt.shaped (.tuple (ns.map PyData.int)) = true := by
  unfold SeqAt.shaped
  rw [show PyData.canLay0 (.tuple (ns.map PyData.int)) = PyData.canLayAll0 (ns.map PyData.int) from rfl, lay_ints]
  rw [show PyData.depth (.tuple (ns.map PyData.int)) = PyData.depthAll (ns.map PyData.int) + 1 from rfl, depth_ints]
  rfl
theorem eqv_tints (ns : List Int) : PyData.eqv (.tuple (ns.map PyData.int)) (.tuple (ns.map PyData.int)) = true := SeqAt.eqv_refl _ (lay_ints ns)
theorem ne_same {K : PySem.W.Frag} {H : Hp} {a b : Addr} {ns : List Int} {Q : VK} (ha : SqT K H a (ns.map V.int)) (hb : SqT K H b (ns.map V.int)) (q : Q (.bl false) H) : rNeD K (.ref a) (.ref b) H Q := by
  refine ⟨_, _, .tup ha (dpAll_ints ns), .tup hb (dpAll_ints ns), shaped_tints ns, shaped_tints ns, ?_⟩
  rw [eqv_tints]
  exact q
/-! ### the properties, the operators -/
section
variable {P : Program} {w : World} {K : PySem.W.Frag} {mg : Str → Option Value} {base : Heap}
def spEnt (C : Addr) : Sp := fun vs H Q _ => ∃ (a : Addr) (ns : List Int), vs = [.ref a] ∧ Fo C H a ns ∧ ∀ t, H t = some (tp ns) → Q (.ref t) H
theorem ok_Form_entries (T : Facts K mg) : FnOk P w K mg base CX0 1 T.f_Form_entries T.fd_Form_entries ["self"] (spEnt T.C_Form) := by
  refine T.F_Form_entries.ok sc_Form_entries (fun vs H Q E h => ?_) (fun cdv A outer s H vs Q E hr h => ?_)
  · obtain ⟨a, ns, rfl, _⟩ := h
    rfl
  · obtain ⟨a, ns, rfl, fa, q⟩ := h
    obtain ⟨dx, t, ha, ht⟩ := fa.slt
    refine ⟨_, (PSs.nox (pss_one (ps_ret (pe_sl (pv 0))))), ?_⟩
    exact ⟨_, rfl, a, T.C_Form, dx, T.a_own_entries, _, 0, .ref t, rfl, ha, T.oc_Form.scl, T.sl_own_entries, rfl, q t ht⟩
def spDeg (C : Addr) : Sp := fun vs H Q _ => ∃ (a : Addr) (ns : List Int), vs = [.ref a] ∧ Fo C H a ns ∧ Q (.int ((ns.length : Int) - 1)) H
theorem ok_Form_degree (T : Facts K mg) : FnOk P w K mg base CX0 1 T.f_Form_degree T.fd_Form_degree ["self"] (spDeg T.C_Form) := by
  refine T.F_Form_degree.ok sc_Form_degree (fun vs H Q E h => ?_) (fun cdv A outer s H vs Q E hr h => ?_)
  · obtain ⟨a, ns, rfl, _⟩ := h
    rfl
  · obtain ⟨a, ns, rfl, fa, q⟩ := h
    obtain ⟨dx, t, ha, ht⟩ := fa.slt
    refine ⟨_, (PSs.nox (pss_one (ps_ret (pe_op op_sub (pe_callB call_len_seq (by rfl) T.z_len (by decide +kernel) (pa_cons (pe_sl (pv 0)) pa_nil)) pe_int)))), ?_⟩
    refine ⟨_, rfl, a, T.C_Form, dx, T.a_own_entries, _, 0, .ref t, rfl, ha, T.oc_Form.scl, T.sl_own_entries, rfl, t, _, rfl, .inr (SqT.of ht), _, _, rfl, rfl, ?_⟩
    rw [List.length_map]
    exact q
def spIsZ (C : Addr) : Sp := fun vs H Q _ => ∃ (a : Addr) (ns : List Int), vs = [.ref a] ∧ Fo C H a ns ∧ Q (.bl (!ns.any (· != 0))) H
theorem ok_Form_is_zero (T : Facts K mg) : FnOk P w K mg base CX0 2 T.f_Form_is_zero T.fd_Form_is_zero ["self"] (spIsZ T.C_Form) := by
  have G_is_zero_in : FnOk P w K mg base CX0 1 T.f_is_zero_in T.fd_is_zero_in ["entries"] spZero := ok_is_zero_in T
  refine T.F_Form_is_zero.ok sc_Form_is_zero (fun vs H Q E h => ?_) (fun cdv A outer s H vs Q E hr h => ?_)
  · obtain ⟨a, ns, rfl, _⟩ := h
    rfl
  · obtain ⟨a, ns, rfl, fa, q⟩ := h
    obtain ⟨dx, t, ha, ht⟩ := fa.slt
    refine ⟨_, (PSs.nox (pss_one (ps_ret (pe_call G_is_zero_in hr (by rfl) T.g_is_zero_in T.F_is_zero_in.kp T.b_is_zero_in .nil pass0 (pa_cons (pe_sl (pv 0)) pa_nil))))), ?_⟩
    exact ⟨_, rfl, a, T.C_Form, dx, T.a_own_entries, _, 0, .ref t, rfl, ha, T.oc_Form.scl, T.sl_own_entries, rfl, t, ns, rfl, ht, q⟩
/-- what is asked of a form's row -/
structure Rw (ns : List Int) : Prop where
  ne : ns ≠ []
  len : ns.length ≤ 100
  sm : ∀ x ∈ ns, sm x
/-- isinstance(x, Form), x a form -/
theorem isi_form {X : Cx} {C b dy : Addr} {vs : List (Option V)} {H : Hp} {Q : VK} (c : OC X.K C) (hb : Slt H b C dy vs) (q : Q (.bl true) H) : rIsi X.K [.ref b, .ref C] H Q ∨ rIsiSl X.K (.ref C) [.ref b, .ref C] H Q :=
  .inr ⟨b, C, dy, vs, .ref C, true, rfl, rfl, fun w r => r, hb, c.scl, c.sis, c.kself, q⟩
end
end K40

set_option Elab.async false
set_option linter.all false
set_option maxRecDepth 100000
set_option maxHeartbeats 4000000
namespace K40
open PySem PySem.Spec PyProof.Rows L2 StX RZ MyR SlX OwnR OwnF
theorem eqvAll_ints : ∀ xs ys : List Int, PyData.eqvAll (xs.map PyData.int) (ys.map PyData.int) = decide (xs = ys)
  | [], [] => rfl
  | [], _ :: _ => rfl
  | _ :: _, [] => rfl
  | x :: xs, y :: ys => by
    show (PyData.eqv (.int x) (.int y) && PyData.eqvAll (xs.map PyData.int) (ys.map PyData.int)) = _
    rw [eqvAll_ints xs ys]
    show ((x == y) && decide (xs = ys)) = decide (x :: xs = y :: ys)
    by_cases h : x = y
    · by_cases k : xs = ys
      · subst h k
        simp
      · rw [decide_eq_false k, decide_eq_false fun z => k (List.cons.inj z).2, Bool.and_false]
    · rw [decide_eq_false fun z => h (List.cons.inj z).1, beq_eq_false_iff_ne.mpr h, Bool.false_and]
theorem eqv_ints (xs ys : List Int) : PyData.eqv (.tuple (xs.map PyData.int)) (.tuple (ys.map PyData.int)) = decide (xs = ys) := eqvAll_ints xs ys
theorem eq_ints {K : PySem.W.Frag} {H : Hp} {a b : Addr} {xs ys : List Int} {Q : VK} (ha : SqT K H a (xs.map V.int)) (hb : SqT K H b (ys.map V.int)) (q : Q (.bl (decide (xs = ys))) H) : rEqD K (.ref a) (.ref b) H Q := by
  refine ⟨_, _, .tup ha (dpAll_ints xs), .tup hb (dpAll_ints ys), shaped_tints xs, shaped_tints ys, ?_⟩
  rw [eqv_ints]
  exact q
section
variable {P : Program} {w : World} {K : PySem.W.Frag} {mg : Str → Option Value} {base : Heap}
/-- == : with a form, with a tuple -/
def spEqF (C : Addr) : Sp := fun vs H Q _ => ∃ (a : Addr) (xs : List Int) (b : Addr), vs = [.ref a, .ref b] ∧ Fo C H a xs ∧
  ((∃ ys, Fo C H b ys ∧ Q (.bl (decide (xs = ys))) H) ∨ (∃ ys, H b = some (tp ys) ∧ Q (.bl false) H))
theorem ok_Form_eq (T : Facts K mg) : FnOk P w K mg base CX0 1 T.f_Form_eq T.fd_Form_eq ["self", "other"] (spEqF T.C_Form) := by
  refine T.F_Form_eq.ok sc_Form_eq (fun vs H Q E h => ?_) (fun cdv A outer s H vs Q E hr h => ?_)
  · obtain ⟨a, xs, b, rfl, _⟩ := h
    rfl
  · obtain ⟨a, xs, b, rfl, fa, h⟩ := h
    obtain ⟨dx, t, ha, ht⟩ := fa.slt
    refine ⟨_, (PSs.nox (pss_one (ps_ret (pe_and (pe_callB (call_isiF T.C_Form) (by rfl) T.z_isinstance (by decide +kernel) (pa_cons (pv 1) (pa_cons (pe_glob (v := .ref T.C_Form) (by rfl) T.g_Form rfl) pa_nil))) (pe_one (pe_cmpR (op_eqD (hu64 hr)) (pe_sl (pv 0)) (pe_sl (pv 1)) (nomark _))))))), ?_⟩
    rcases h with ⟨ys, fb, q⟩ | ⟨ys, hb, q⟩
    · obtain ⟨dy, u, hb, hu⟩ := fb.slt
      refine ⟨_, rfl, isi_form (X := (cxOf CX0 P w K mg base N_Form_eq (Str.ofString "Form.__eq__") (defScope s_Form_eq) T.f_Form_eq cdv A outer s H E).nox) T.oc_Form hb ⟨true, rfl, iteT ?_⟩⟩
      exact ⟨_, rfl, a, T.C_Form, dx, T.a_own_entries, _, 0, .ref t, rfl, ha, T.oc_Form.scl, T.sl_own_entries, rfl, _, rfl, b, T.C_Form, dy, T.a_own_entries, _, 0, .ref u, rfl, hb, T.oc_Form.scl, T.sl_own_entries, rfl, eq_ints (SqT.of ht) (SqT.of hu) q⟩
    · exact ⟨_, rfl, .inl ⟨.ref b, .ref T.C_Form, .type "tuple", .ref T.C_Form, false, rfl, .own _, .base (.tup hb), T.oc_Form.ktup, false, rfl, iteF q⟩⟩
end
end K40

set_option Elab.async false
set_option linter.all false
set_option maxRecDepth 100000
set_option maxHeartbeats 4000000
namespace K40
open PySem PySem.Spec PyProof.Rows L2 StX RZ MyR SlX OwnR OwnF
abbrev dice (x y z : Int) : HO := .lst [.int x, .int y, .int z]
/-- all but the dice is as it was -/
def Sx (a : Addr) (H H' : Hp) : Prop := ∀ b o, b ≠ a → H b = some o → H' b = some o
def Dc (H : Hp) (a : Addr) : Prop := ∃ x y z, H a = some (dice x y z)
theorem Sx.refl (a : Addr) (H : Hp) : Sx a H H := fun _ _ _ h => h
theorem Sx.trans {a : Addr} {H H1 H2 : Hp} (s : Sx a H H1) (t : Sx a H1 H2) : Sx a H H2 := fun b o n h => t b o n (s b o n h)
theorem Sx.of {a : Addr} {H H' : Hp} (s : Same H H') : Sx a H H' := fun b o _ h => s b o h
theorem Sx.upd {a : Addr} {H : Hp} {o : HO} : Sx a H (upd H a o) := fun b u n h => by
  rw [upd_ne n]
  exact h
theorem Dc.same {a : Addr} {H H' : Hp} (d : Dc H a) (s : Same H H') : Dc H' a := by
  obtain ⟨x, y, z, e⟩ := d
  exact ⟨x, y, z, s _ _ e⟩
theorem Dc.ne {a p : Addr} {H : Hp} (d : Dc H a) (n : H p = none) : p ≠ a := fun e => by
  obtain ⟨x, y, z, h⟩ := d
  rw [e, h] at n
  cases n
theorem Sx.free {a p : Addr} {H H' : Hp} (s : Sx a H H') (n : H' p = none) (ne : p ≠ a) : H p = none := by
  cases q : H p with
  | none => rfl
  | some o =>
    rw [s p o ne q] at n
    cases n
theorem script_Sx {K : PySem.W.Frag} {d a : Addr} {H H' : Hp} {o : HO} {xs : List V} (s : Sx d (upd H d o) H') (n : H d = none) (h : SqL K H a xs) : SqL K H' a xs := by
  rcases h with (h | ⟨u, h⟩) | h
  · have ne : a ≠ d := ne_of_none h n
    exact .inl (.inl (s a _ ne (by rw [upd_ne ne]; exact h)))
  · have ne : a ≠ d := ne_of_none h n
    exact .inl (.inr ⟨u, s a _ ne (by rw [upd_ne ne]; exact h)⟩)
  · exact .inr h
section
variable {P : Program} {w : World} {K : PySem.W.Frag} {mg : Str → Option Value} {base : Heap}
theorem cp16 : CPow 10 16 := ⟨by decide, by decide, by decide⟩
theorem cp60 : CPow 10 60 := ⟨by decide, by decide, by decide⟩
theorem cw60 : CMulW (10 ^ Int.toNat 60) (10 ^ Int.toNat 60) := by
  unfold CMulW
  decide +kernel
theorem pos60 : (0 : Int) < 10 ^ Int.toNat 60 * 10 ^ Int.toNat 60 := by decide +kernel
theorem pos_m : (0 : Int) < 1152921504606846697 := by decide
theorem sz3 : 3 ≤ sizeLine := by decide
def spDice (K : PySem.W.Frag) : Sp := fun vs H Q _ => ∃ (a : Addr) (ns : List Int) (k : Nat), vs = [.ref a, .int k] ∧ SqL K H a (ns.map V.int) ∧ ∀ p x y z, H p = none → Q (.ref p) (upd H p (dice x y z))
theorem ok_law_dice (T : Facts K mg) : FnOk P w K mg base CX0 1 T.f_law_dice T.fd_law_dice ["_law_script", "_law_spot"] (spDice K) := by
  refine T.F_law_dice.ok sc_law_dice (fun vs H Q E h => ?_) (fun cdv A outer s H vs Q E hr h => ?_)
  · obtain ⟨a, ns, k, rfl, _⟩ := h
    rfl
  · obtain ⟨a, ns, k, rfl, hS, q⟩ := h
    refine ⟨_, (PSs.nox (pss_cons (ps_set (i := 2) sc_law_dice.nd rfl (.inl rfl) (pe_ifExp (pt_cmpR op_lt (pv 1) (pe_callB call_len_seq (by rfl) T.z_len (by decide +kernel) (pa_cons (pv 0) pa_nil)) (nomark _)) (pe_callTy call_int1 (by rfl) T.z_int (by decide +kernel) (pa_cons (pe_ix ix_list (pv 0) (pv 1) (fun _ _ => rfl)) pa_nil)) (pe_op op_add (pe_op op_mul pe_int (pv 1)) pe_int)))
    (pss_cons (ps_set (i := 3) sc_law_dice.nd rfl (.inl rfl) (pe_op op_mod (pe_callB (call_max2 (by rfl)) (by rfl) T.z_max (by decide +kernel) (pa_cons pe_int (pa_cons (pe_op op_sub (pe_callB call_abs (by rfl) T.z_abs (by decide +kernel) (pa_cons (pv 2) pa_nil)) (pe_op op_pow pe_int pe_int)) pa_nil))) (pe_op op_mulW (pe_op op_pow pe_int pe_int) (pe_op op_pow pe_int pe_int))))
    (pss_one (ps_ret (pe_lst (pa_cons (pv 3) (pa_cons (pe_op op_add (pe_op op_add (pe_op op_add (pe_op op_mul (pe_op op_mod (pe_callB call_abs (by rfl) T.z_abs (by decide +kernel) (pa_cons (pv 2) pa_nil)) pe_int) pe_int) (pe_op op_mul pe_int (pv 1))) (pe_op op_mul pe_int (pe_callTy call_int1 (by rfl) T.z_int (by decide +kernel) (pa_cons (pe_cmpR op_lt (pv 2) pe_int (nomark _)) pa_nil)))) pe_int) (pa_cons pe_int pa_nil))))))))), ?_⟩
    refine ⟨.int k, rfl, .ref a, rfl, a, ns.map V.int, rfl, .inl hS, k, _, rfl, rfl, _, rfl, ?_⟩
    rw [List.length_map]
    by_cases h1 : (k : Int) < (ns.length : Int)
    · rw [decide_eq_true h1]
      have hj : k < ns.length := by omega
      refine iteT ⟨.ref a, rfl, .int k, rfl, a, ns.map V.int, k, .int ns[k], rfl, rfl, hS, atI_nat (by rw [List.getElem?_map, List.getElem?_eq_getElem hj]; rfl), .inl ⟨_, rfl, ?_⟩⟩
      refine ⟨.int ns[k], rfl, _, rfl, 10, 16, rfl, rfl, cp16, _, _, rfl, rfl, 0, _, rfl, 10, 60, rfl, rfl, cp60, 10, 60, rfl, rfl, cp60, _, _, rfl, rfl, cw60, _, _, rfl, rfl, pos60, ?_⟩
      refine ⟨_, rfl, .int ns[k], rfl, _, rfl, _, _, rfl, rfl, pos_m, _, _, rfl, rfl, .inr ⟨by decide, by decide⟩, .int k, rfl, _, _, rfl, rfl, .inl ⟨by decide, by decide⟩, _, _, rfl, rfl, .int ns[k], rfl, _, _, rfl, rfl, .inr ⟨_, rfl, _, _, rfl, rfl, .inl ⟨by decide, by decide⟩, _, _, rfl, rfl, _, _, rfl, rfl, ?_⟩⟩
      exact ⟨sz3, fun p hp => q p _ _ _ hp⟩
    · rw [decide_eq_false h1]
      refine iteF ⟨.int k, rfl, _, _, rfl, rfl, .inl ⟨by decide, by decide⟩, _, _, rfl, rfl, ?_⟩
      refine ⟨_, rfl, _, rfl, 10, 16, rfl, rfl, cp16, _, _, rfl, rfl, 0, _, rfl, 10, 60, rfl, rfl, cp60, 10, 60, rfl, rfl, cp60, _, _, rfl, rfl, cw60, _, _, rfl, rfl, pos60, ?_⟩
      refine ⟨_, rfl, _, rfl, _, rfl, _, _, rfl, rfl, pos_m, _, _, rfl, rfl, .inr ⟨by decide, by decide⟩, .int k, rfl, _, _, rfl, rfl, .inl ⟨by decide, by decide⟩, _, _, rfl, rfl, _, rfl, _, _, rfl, rfl, .inr ⟨_, rfl, _, _, rfl, rfl, .inl ⟨by decide, by decide⟩, _, _, rfl, rfl, _, _, rfl, rfl, ?_⟩⟩
      exact ⟨sz3, fun p hp => q p _ _ _ hp⟩
def spRoll : Sp := fun vs H Q _ => ∃ (a : Addr) (x y z n : Int), vs = [.ref a, .int n] ∧ H a = some (dice x y z) ∧ 0 < n ∧ n.natAbs.log2 < 9000 ∧ ∀ r x' z', 0 ≤ r → r < n → Q (.int r) (upd H a (dice x' y z'))
theorem ok_law_roll (T : Facts K mg) : FnOk P w K mg base CX0 1 T.f_law_roll T.fd_law_roll ["_law_dice_here", "_law_total"] spRoll := by
  refine T.F_law_roll.ok sc_law_roll (fun vs H Q E h => ?_) (fun cdv A outer s H vs Q E hr h => ?_)
  · obtain ⟨a, x, y, z, n, rfl, _⟩ := h
    rfl
  · obtain ⟨a, x, y, z, n, rfl, hd, h0, h1, q⟩ := h
    have hS : SqL K H a [.int x, .int y, .int z] := SqL.of hd
    refine ⟨_, (PSs.nox (pss_cons (ps_if (pt_cmpR op_gt (pe_ix ix_list (pv 0) pe_int (fun _ _ => rfl)) pe_int (nomark _))
      (pss_cons (ps_set (i := 2) sc_law_roll.nd rfl (.inl rfl) (pe_op op_mod (pe_callTy call_int1 (by rfl) T.z_int (by decide +kernel) (pa_cons (pe_ix ix_list (pv 0) pe_int (fun _ _ => rfl)) pa_nil)) (pv 1)))
      (pss_cons (ps_asg (pe_op op_fdivW (pe_ix ix_list (pv 0) pe_int (fun _ _ => rfl)) (pv 1)) (pg_sub (pv 0) pe_int set_list))
      (pss_one (ps_ret (pv 2)))))
      pss_nil)
    (pss_cons (ps_asg (pe_op op_add (pe_ix ix_list (pv 0) pe_int (fun _ _ => rfl)) pe_int) (pg_sub (pv 0) pe_int set_list))
    (pss_cons (ps_set (i := 3) sc_law_roll.nd rfl (.inl rfl) (pe_op op_mod (pe_callTy call_int1 (by rfl) T.z_int (by decide +kernel) (pa_cons (pe_op op_add (pe_ix ix_list (pv 0) pe_int (fun _ _ => rfl)) (pe_op op_mul pe_int (pe_ix ix_list (pv 0) pe_int (fun _ _ => rfl)))) pa_nil)) pe_int))
    (pss_cons (ps_set (i := 4) sc_law_roll.nd rfl (.inl rfl) (pe_op op_add (pe_op op_mul (pe_op op_mod (pe_callTy call_int1 (by rfl) T.z_int (by decide +kernel) (pa_cons (pe_op op_add (pe_op op_mul (pv 3) (pv 3)) (pe_op op_mul pe_int (pe_ix ix_list (pv 0) pe_int (fun _ _ => rfl)))) pa_nil)) pe_int) pe_int) (pv 3)))
    (pss_one (ps_ret (pe_op op_mod (pe_callTy call_int1 (by rfl) T.z_int (by decide +kernel) (pa_cons (pe_op op_fdivW (pv 4) pe_int) pa_nil)) (pv 1))))))))), ?_⟩
    refine ⟨.ref a, rfl, a, _, 0, .int x, rfl, rfl, hS, atI_nat (j := 0) rfl, x, 0, rfl, rfl, decide (0 < x), rfl, ite2 (fun _ => ?_) (fun _ => ?_)⟩
    · refine ⟨.ref a, rfl, a, _, 0, .int x, rfl, rfl, hS, atI_nat (j := 0) rfl, .inl ⟨x, rfl, .int n, rfl, x, n, rfl, rfl, h0, ?_⟩⟩
      refine ⟨.ref a, rfl, a, _, 0, .int x, rfl, rfl, hS, atI_nat (j := 0) rfl, .int n, rfl, x, n, rfl, rfl, ⟨h0, h1⟩, ?_⟩
      refine ⟨.ref a, rfl, a, _, 0, 0, rfl, rfl, hd, rfl, ?_⟩
      exact ⟨_, rfl, q (x % n) (x / n) z (Int.emod_nonneg _ (by omega)) (Int.emod_lt_of_pos _ h0)⟩
    · refine ⟨.ref a, rfl, a, _, 2, .int z, rfl, rfl, hS, atI_nat (j := 2) rfl, z, 1, rfl, rfl, ?_⟩
      refine ⟨.ref a, rfl, a, _, 2, 2, rfl, rfl, hd, rfl, ?_⟩
      have hd' : (upd H a (dice x y (z + 1))) a = some (dice x y (z + 1)) := upd_same
      have hS' : SqL K (upd H a (dice x y (z + 1))) a [.int x, .int y, .int (z + 1)] := SqL.of hd'
      refine ⟨.ref a, rfl, a, _, 1, .int y, rfl, rfl, hS', atI_nat (j := 1) rfl, .ref a, rfl, a, _, 2, .int (z + 1), rfl, rfl, hS', atI_nat (j := 2) rfl, _, _, rfl, rfl, .inl ⟨by decide, by decide⟩, _, _, rfl, rfl, .inl ⟨_, rfl, _, _, rfl, rfl, (by decide : (0 : Int) < 2305843009213691579), ?_⟩⟩
      have b0 := Int.emod_nonneg (y + 92821991 * (z + 1)) (show (2305843009213691579 : Int) ≠ 0 by decide)
      have b1 := Int.emod_lt_of_pos (y + 92821991 * (z + 1)) (show (0 : Int) < 2305843009213691579 by decide)
      refine ⟨_, rfl, _, rfl, _, _, rfl, rfl, .inl ⟨Int.lt_of_lt_of_le (by decide) b0, Int.lt_trans b1 (by decide)⟩, .ref a, rfl, a, _, 2, .int (z + 1), rfl, rfl, hS', atI_nat (j := 2) rfl, _, _, rfl, rfl, .inl ⟨by decide, by decide⟩, _, _, rfl, rfl, .inl ⟨_, rfl, _, _, rfl, rfl, (by decide : (0 : Int) < 2305843009213692227), _, _, rfl, rfl, .inr ⟨by decide, by decide⟩, _, rfl, _, _, rfl, rfl, ?_⟩⟩
      refine ⟨_, rfl, _, _, rfl, rfl, ⟨by decide, by decide +kernel⟩, .inl ⟨_, rfl, .int n, rfl, _, _, rfl, rfl, h0, ?_⟩⟩
      exact q _ x (z + 1) (Int.emod_nonneg _ (by omega)) (Int.emod_lt_of_pos _ h0)
def spRoll2 : Sp := fun vs H Q _ => ∃ (a : Addr) (n : Int), vs = [.ref a, .int n] ∧ Dc H a ∧ 0 < n ∧ n.natAbs.log2 < 9000 ∧ ∀ (r : Nat) H', (r : Int) < n → Sx a H H' → Dc H' a → Q (.int r) H'
theorem roll2 : ∀ vs H Q E, spRoll2 vs H Q E → spRoll vs H Q E := fun vs H Q E h => by
  obtain ⟨a, n, rfl, ⟨x, y, z, e⟩, h0, h1, q⟩ := h
  refine ⟨a, x, y, z, n, rfl, e, h0, h1, fun r x' z' r0 r1 => ?_⟩
  obtain ⟨j, rfl⟩ := Int.eq_ofNat_of_zero_le r0
  exact q j _ r1 Sx.upd ⟨x', y, z', upd_same⟩
def spNear : Sp := fun vs H Q _ => ∃ (a : Addr) (m : Int), vs = [.ref a, .int m] ∧ Dc H a ∧ 0 ≤ m ∧ m ≤ 10 ^ 15 ∧ ∀ r H', -m ≤ r → r ≤ m → Sx a H H' → Dc H' a → Q (.int r) H'
theorem ok_law_near (T : Facts K mg) : FnOk P w K mg base CX0 2 T.f_law_near T.fd_law_near ["_law_dice_here", "_law_most"] spNear := by
  have G_law_roll : FnOk P w K mg base CX0 1 T.f_law_roll T.fd_law_roll ["_law_dice_here", "_law_total"] spRoll2 := (ok_law_roll T).imp roll2
  refine T.F_law_near.ok sc_law_near (fun vs H Q E h => ?_) (fun cdv A outer s H vs Q E hr h => ?_)
  · obtain ⟨a, m, rfl, _⟩ := h
    rfl
  · obtain ⟨a, m, rfl, hd, h0, h1, q⟩ := h
    refine ⟨_, (PSs.nox (pss_one (ps_ret (pe_op op_sub (pe_call G_law_roll hr (by rfl) T.g_law_roll T.F_law_roll.kp T.b_law_roll .nil pass0 (pa_cons (pv 0) (pa_cons (pe_op op_add (pe_op op_mul pe_int (pv 1)) pe_int) pa_nil))) (pv 1))))), ?_⟩
    have e15 : (10 : Int) ^ 15 = 1000000000000000 := by decide
    rw [e15] at h1
    refine ⟨_, rfl, _, rfl, _, _, rfl, rfl, .inl ⟨by decide, by decide⟩, _, _, rfl, rfl, a, _, rfl, hd, (by show 0 < 2 * m + 1; omega), ?_, fun r H' hr s d => ⟨_, rfl, _, _, rfl, rfl, ?_⟩⟩
    · refine Nat.lt_trans (PySem.Flt.log2_lt_of (k := 60) (by decide) ?_) (by decide)
      show (2 * m + 1).natAbs < 2 ^ 60
      omega
    · have hr' : (r : Int) < 2 * m + 1 := hr
      exact q _ H' (by omega) (by omega) s d
end
end K40

set_option Elab.async false
set_option linter.all false
set_option maxRecDepth 100000
set_option maxHeartbeats 4000000
namespace K40
open PySem PySem.Spec PyProof.Rows L2 StX RZ MyR SlX OwnR OwnF
theorem int_get {xs : List Int} {i : Nat} {x : V} (h : (xs.map V.int)[i]? = some x) : i < xs.length ∧ x = .int (co xs i) := by
  have hi : i < xs.length := by
    have := (List.getElem?_eq_some_iff.mp h).1
    rw [List.length_map] at this
    exact this
  rw [get_int hi] at h
  cases h
  exact ⟨hi, rfl⟩
theorem tab_snoc (n : Nat) (f : Nat → Int) : tab n f ++ [V.int (f n)] = tab (n + 1) f := by
  unfold tab
  rw [List.range_succ, List.map_append]
  rfl
theorem zs_tb {c : Int} {xs ys : List Int} (hl : xs.length = ys.length) : (tb xs.length fun k => co xs k + c * co ys k) = zs c xs ys := by
  refine co_inj (by rw [tb_len]; unfold zs; rw [List.length_zipWith, hl, Nat.min_self]) fun k => ?_
  rw [co_tb]
  unfold zs
  by_cases hk : k < xs.length
  · rw [if_pos hk, co_get (l := List.zipWith _ _ _) (by rw [List.length_zipWith]; omega), List.getElem_zipWith, co_get hk, co_get (by omega)]
  · rw [if_neg hk, co_far (by rw [List.length_zipWith]; omega)]
section
variable {P : Program} {w : World} {K : PySem.W.Frag} {mg : Str → Option Value} {base : Heap}
def spPlus : Sp := fun vs H Q _ => ∃ (t u : Addr) (xs ys : List Int), vs = [.ref t, .ref u] ∧ H t = some (tp xs) ∧ H u = some (tp ys) ∧ xs.length = ys.length ∧ xs.length ≤ 100 ∧ ∀ p H', Same H H' → H p = none → H' p = some (tp (zs 1 xs ys)) → Q (.ref p) H'
theorem ok_law_plus (T : Facts K mg) : FnOk P w K mg base CX0 1 T.f_law_plus T.fd_law_plus ["_law_one", "_law_other"] spPlus := by
  refine T.F_law_plus.ok sc_law_plus (fun vs H Q E h => ?_) (fun cdv A outer s H vs Q E hr h => ?_)
  · obtain ⟨t, u, xs, ys, rfl, _⟩ := h
    rfl
  · obtain ⟨t, u, xs, ys, rfl, ht, hu, hl, hlt, q⟩ := h
    refine ⟨_, (PSs.nox (pss_one (ps_ret (pe_tupleOf (by rfl) T.z_tuple (pe_lc (own := [("_law_first", 2), ("_law_second", 3)]) (g := (gTup K 2 (gCons (gName 2) (gCons (gName 3) gNil)))) (tt := tYes) (by rfl) sc_law_plus.nd (pi_zipA (by rfl) T.z_zip (pa_cons (pv 0) (pa_cons (pv 1) pa_nil))) (blkOk_by (N := N_law_plus) (sc := defScope s_law_plus) (by decide +kernel)) (fun _ _ _ _ _ => (pg_tup (by rfl) (pgs_cons (pg_name (i := 2) sc_law_plus.nd rfl (.inl rfl)) (pgs_cons (pg_name (i := 3) sc_law_plus.nd rfl (.inl rfl)) pgs_nil)))) (fun _ _ _ _ _ => pts_nil) (fun _ _ _ _ _ => (pe_op op_add (pv 2) (pv 3)))))))), ?_⟩
    refine ⟨_, rfl, _, rfl, t, u, _, _, rfl, .inr ⟨SqT.of ht, SqT.of hu, fun D hD => ?_⟩⟩
    refine lc_zipT (xs := xs.map V.int) (ys := ys.map V.int) (by rw [List.length_map, List.length_map, hl]) (fun j H' => Same H H' ∧ H' D = some (.lst (tab j fun k => co xs k + 1 * co ys k))) ⟨same_upd0 hD, upd_same⟩ (fun j H' _ hP => ⟨SqT.of (hP.1 _ _ ht), SqT.of (hP.1 _ _ hu)⟩) (fun j x y A H' hx hy hP hA => ?_) (fun H' hP => ?_)
    · obtain ⟨sH, hD'⟩ := hP
      obtain ⟨hj, rfl⟩ := int_get hx
      obtain ⟨_, rfl⟩ := int_get hy
      have sA := same_upd0 (o := .tup [.int (co xs j), .int (co ys j)]) hA
      refine ⟨A, _, rfl, SqT.of upd_same, rfl, _, _, rfl, _, _, rfl, rfl, rfl, _, rfl, _, rfl, _, _, rfl, rfl, _, sA _ _ hD', ?_, fun b o e => ?_, ?_⟩
      · rw [tab_len]
        exact small1000 (by omega)
      · rw [upd_ne (ne_of_none e hD)]
        exact sA _ _ (sH _ _ e)
      · rw [upd_same, ← tab_snoc]
        show some (HO.lst (tab j _ ++ [V.int (co xs j + co ys j)])) = some (HO.lst (tab j _ ++ [V.int (co xs j + 1 * co ys j)]))
        rw [Int.one_mul]
    · obtain ⟨sH, hD'⟩ := hP
      rw [List.length_map] at hD'
      refine .inl ⟨D, _, rfl, SqL.of hD', fun p hp2 => ?_⟩
      refine q p _ (sH.trans (same_upd0 hp2)) (Same.free sH hp2) ?_
      rw [upd_same, tab_tb, zs_tb hl]
def spScaled : Sp := fun vs H Q _ => ∃ (t : Addr) (xs : List Int) (c : Int), vs = [.ref t, .int c] ∧ H t = some (tp xs) ∧ xs.length ≤ 100 ∧ (∀ x ∈ xs, sm x) ∧ sm c ∧ ∀ p H', Same H H' → H p = none → H' p = some (tp (xs.map fun x => c * x)) → Q (.ref p) H'
theorem ok_law_scaled (T : Facts K mg) : FnOk P w K mg base CX0 1 T.f_law_scaled T.fd_law_scaled ["_law_form", "_law_factor"] spScaled := by
  refine T.F_law_scaled.ok sc_law_scaled (fun vs H Q E h => ?_) (fun cdv A outer s H vs Q E hr h => ?_)
  · obtain ⟨t, xs, c, rfl, _⟩ := h
    rfl
  · obtain ⟨t, xs, c, rfl, ht, hl, hs, hc, q⟩ := h
    refine ⟨_, (PSs.nox (pss_one (ps_ret (pe_tupleOf (by rfl) T.z_tuple (pe_lc (own := [("_law_entry", 2)]) (g := (gName 2)) (tt := tYes) (by rfl) sc_law_scaled.nd (pi_tup (pv 0)) (blkOk_by (N := N_law_scaled) (sc := defScope s_law_scaled) (by decide +kernel)) (fun _ _ _ _ _ => (pg_name (i := 2) sc_law_scaled.nd rfl (.inl rfl))) (fun _ _ _ _ _ => pts_nil) (fun _ _ _ _ _ => (pe_op op_mulW (pv 1) (pv 2)))))))), ?_⟩
    refine ⟨_, rfl, t, rfl, ⟨_, SqT.of ht⟩, fun D hD => lc_tup (xs := xs.map V.int) (fun j H' => H' = upd H D (.lst (tab j fun k => c * co xs k))) rfl (fun j H' _ hP => ?_) (fun j x H' hx hP => ?_) (fun H' hP => ?_)⟩
    · rw [hP]
      exact SqT.of (same_upd0 hD _ _ ht)
    · subst hP
      obtain ⟨hj, rfl⟩ := int_get hx
      refine ⟨rfl, ⟨_, rfl, _, rfl, _, _, rfl, rfl, sm_mul hc (sm_co hs hj), _, upd_same, ?_, ?_⟩⟩
      · rw [tab_len]
        exact small1000 (by omega)
      · rw [upd_upd, ← tab_snoc]
    · subst hP
      rw [List.length_map, tab_tb, tb_map (fun x => c * x) xs]
      refine .inl ⟨D, _, rfl, SqL.of upd_same, fun p hp2 => ?_⟩
      exact q p _ ((same_upd0 hD).trans (same_upd0 hp2)) (Same.free (same_upd0 hD) hp2) upd_same
end
end K40

set_option Elab.async false
set_option linter.all false
set_option maxRecDepth 100000
set_option maxHeartbeats 4000000
namespace K40
open PySem PySem.Spec PyProof.Rows L2 StX RZ MyR SlX OwnR OwnF EnumT
section
variable {P : Program} {w : World} {K : PySem.W.Frag} {mg : Str → Option Value} {base : Heap}
def spProd : Sp := fun vs H Q _ => ∃ (a b : Addr) (xs ys : List Int), vs = [.ref a, .ref b] ∧ H a = some (tp xs) ∧ H b = some (tp ys) ∧ xs ≠ [] ∧ ys ≠ [] ∧ xs.length ≤ 100 ∧ ys.length ≤ 100 ∧ (∀ x ∈ xs, sm x) ∧ (∀ x ∈ ys, sm x) ∧ ∀ p H', Same H H' → H p = none → H' p = some (tp (ml xs ys)) → Q (.ref p) H'
theorem ok_law_product (T : Facts K mg) : FnOk P w K mg base CX0 1 T.f_law_product T.fd_law_product ["_law_one", "_law_other"] spProd := by
  refine T.F_law_product.ok sc_law_product (fun vs H Q E h => ?_) (fun cdv A outer s H vs Q E hr h => ?_)
  · obtain ⟨a, b, xs, ys, rfl, _⟩ := h
    rfl
  · obtain ⟨a, b, xs, ys, rfl, ha, hb, nx, ny, lx, ly, hx, hy, q⟩ := h
    have px : 0 < xs.length := List.length_pos_iff.mpr nx
    have py : 0 < ys.length := List.length_pos_iff.mpr ny
    refine ⟨_, (PSs.nox (pss_cons (ps_setLc (i := 2) (own := [("_law_place", 3)]) (g := (gName 3)) (tt := tYes) rfl sc_law_product.nd rfl rfl (sw_true rfl rfl rfl (by decide +kernel)) (pi_range1 (by rfl) T.z_range (pa_cons (pe_op op_sub (pe_op op_add (pe_callB call_len_seq (by rfl) T.z_len (by decide +kernel) (pa_cons (pv 0) pa_nil)) (pe_callB call_len_seq (by rfl) T.z_len (by decide +kernel) (pa_cons (pv 1) pa_nil))) pe_int) pa_nil)) (blkOk_by (N := N_law_product) (sc := defScope s_law_product) (by decide +kernel)) (fun _ _ _ _ _ => (pg_name (i := 3) sc_law_product.nd rfl (.inl rfl))) (fun _ _ _ _ _ => pts_nil) (fun _ _ _ _ _ => pe_int))
    (pss_cons (ps_for PassesOwn.never (by rfl) (pi_enumT (by rfl) T.z_enumerate (pa_cons (pv 0) pa_nil)) (pg_tup (by rfl) (pgs_cons (pg_name (i := 4) sc_law_product.nd rfl (.inl rfl)) (pgs_cons (pg_name (i := 5) sc_law_product.nd rfl (.inl rfl)) pgs_nil)))
      (pss_one (ps_for PassesOwn.never (by rfl) (pi_enumT (by rfl) T.z_enumerate (pa_cons (pv 1) pa_nil)) (pg_tup (by rfl) (pgs_cons (pg_name (i := 3) sc_law_product.nd rfl (.inl rfl)) (pgs_cons (pg_name (i := 6) sc_law_product.nd rfl (.inl rfl)) pgs_nil)))
        (pss_one (ps_asg (pe_op op_add (pe_ix ix_list (pv 2) (pe_op op_add (pv 4) (pv 3)) (fun _ _ => rfl)) (pe_op op_mulW (pv 5) (pv 6))) (pg_sub (pv 2) (pe_op op_add (pv 4) (pv 3)) set_list))))))
    (pss_one (ps_ret (pe_tupleOf (by rfl) T.z_tuple (pv 2))))))), ?_⟩
    refine ⟨_, rfl, a, _, rfl, .inr (SqT.of ha), _, rfl, b, _, rfl, .inr (SqT.of hb), ?_⟩
    rw [List.length_map, List.length_map]
    obtain ⟨N, hN⟩ : ∃ N, N = xs.length + ys.length - 1 := ⟨_, rfl⟩
    have eN : (((xs.length : Int) + (ys.length : Int) - 1)).toNat = N := by omega
    refine ⟨_, _, rfl, rfl, _, _, rfl, rfl, _, rfl, (by show -(2 ^ 62) ≤ (xs.length : Int) + (ys.length : Int) - 1; omega), (by show (xs.length : Int) + (ys.length : Int) - 1 < 2 ^ 62; omega), fun D hD => lc_range (n := _) (fun j H' => H' = upd H D (.lst (List.replicate j (V.int 0)))) rfl (fun j H' hj hP => ?_) (fun H' hP => ?_)⟩
    · subst hP
      have hj2 : j < N := by rw [← eN]; exact hj
      refine ⟨rfl, ⟨_, upd_same, ?_, ?_⟩⟩
      · rw [List.length_replicate]
        exact small1000 (by omega)
      · rw [upd_upd, List.replicate_succ']
    · subst hP
      show _
      rw [show List.replicate (((xs.length : Int) + (ys.length : Int) - 1)).toNat (V.int 0) = tab N (fun k => cv (xs.take 0) (co ys) k) by rw [eN, tab_rep]; rfl]
      have sD : ∀ o, Same H (upd H D o) := fun o => same_upd0 hD
      -- what stands in each turn: the list at D, and what stood before
      refine ⟨_, rfl, a, _, rfl, SqT.of (sD _ _ _ ha), for_enumT (xs := xs.map V.int) (fun i σ H' => ∃ y3 y4 y5 y6, σ = [some (.ref a), some (.ref b), some (.ref D), y3, y4, y5, y6] ∧ Same H H' ∧ H' D = some (.lst (tab N fun k => cv (xs.take i) (co ys) k))) ⟨none, none, none, none, rfl, sD _, upd_same⟩ (fun i σ H' hP => ?_) (fun i x B σ H' hxi hP hB => ?_) (fun σ H' hP => ?_)⟩
      · obtain ⟨y3, y4, y5, y6, _, sH, _⟩ := hP
        exact SqT.of (sH _ _ ha)
      · obtain ⟨y3, y4, y5, y6, rfl, sH, hL⟩ := hP
        obtain ⟨hi2, rfl⟩ := int_get hxi
        refine ⟨B, _, rfl, SqT.of upd_same, rfl, _, _, rfl, _, _, rfl, rfl, ?_⟩
        refine gen_upd H' B _ hB (fun H2 s2 _ => ?_)
        have sH2 := sH.trans s2
        have hL2 := s2 _ _ hL
        rw [tab_ext (g := J xs (co ys) i 0) fun k hk => J_0.symm] at hL2
        refine ⟨_, rfl, b, _, rfl, SqT.of (sH2 _ _ hb), for_enumT (xs := ys.map V.int) (fun j σ H3 => ∃ y3 y6, σ = [some (.ref a), some (.ref b), some (.ref D), y3, some (.int ((i : Nat) : Int)), some (.int (co xs i)), y6] ∧ Same H H3 ∧ H3 D = some (.lst (tab N (J xs (co ys) i j)))) ⟨y3, y6, rfl, sH2, hL2⟩ (fun j σ H3 hP => ?_) (fun j y B2 σ H3 hyj hP hB2 => ?_) (fun σ H3 hP => ?_)⟩
        · obtain ⟨y3, y6, _, sH3, _⟩ := hP
          exact SqT.of (sH3 _ _ hb)
        · obtain ⟨y3, y6, rfl, sH3, hL3⟩ := hP
          obtain ⟨hj2, rfl⟩ := int_get hyj
          refine ⟨B2, _, rfl, SqT.of upd_same, rfl, _, _, rfl, _, _, rfl, rfl, ?_⟩
          refine gen_upd H3 B2 _ hB2 (fun H4 s4 _ => ?_)
          have sH4 := sH3.trans s4
          have hL4 := s4 _ _ hL3
          have e1 : ((i : Nat) : Int) + ((j : Nat) : Int) = ((i + j : Nat) : Int) := by omega
          refine ⟨_, rfl, _, rfl, _, rfl, _, _, rfl, rfl, D, _, _, _, rfl, rfl, SqL.of hL4, at_of e1 (tab_get (by omega)), _, rfl, _, rfl, _, _, rfl, rfl, sm_mul (sm_co hx hi2) (sm_co hy hj2), _, _, rfl, rfl, ?_⟩
          refine ⟨_, rfl, _, rfl, _, rfl, _, _, rfl, rfl, D, _, _, (i + j), rfl, rfl, hL4, ?_, ?_⟩
          · rw [tab_len]
            exact ix_at e1 (by omega)
          · refine ⟨_, _, rfl, fun c o e => ?_, ?_⟩
            · rw [upd_ne (ne_of_none e hD)]
              exact sH4 _ _ e
            · rw [upd_same]
              show some (HO.lst ((tab N (J xs (co ys) i j)).set (i + j) (.int (J xs (co ys) i j (i + j) + co xs i * co ys j)))) = _
              rw [tab_set, tab_ext fun k hk => J_step]
        · obtain ⟨y3, y6, rfl, sH3, hL3⟩ := hP
          rw [List.length_map, tab_ext fun k hk => J_end hi2] at hL3
          exact ⟨_, _, _, _, rfl, sH3, hL3⟩
      · obtain ⟨y3, y4, y5, y6, rfl, sH, hL⟩ := hP
        rw [List.length_map, List.take_length, tab_tb] at hL
        refine ⟨_, rfl, .inl ⟨D, _, rfl, SqL.of hL, fun p hp => ?_⟩⟩
        refine q p _ (sH.trans (same_upd0 hp)) (Same.free sH hp) ?_
        rw [upd_same, hN]
        rfl
/-- the product of the first n -/
def pow (l : List Int) : Nat → List Int
  | 0 => [1]
  | n + 1 => ml (pow l n) l
def spPow : Sp := fun vs H Q _ => ∃ (a : Addr) (xs : List Int) (n : Nat), vs = [.ref a, .int n] ∧ H a = some (tp xs) ∧ xs ≠ [] ∧ xs.length ≤ 100 ∧ (∀ x ∈ xs, sm x) ∧ (∀ i, i < n → pow xs i ≠ [] ∧ (pow xs i).length ≤ 100 ∧ ∀ x ∈ pow xs i, sm x) ∧ n ≤ 100 ∧ ∀ p H', Same H H' → H' p = some (tp (pow xs n)) → Q (.ref p) H'
theorem ok_law_power (T : Facts K mg) : FnOk P w K mg base CX0 2 T.f_law_power T.fd_law_power ["_law_pair", "_law_times"] spPow := by
  have G_law_product : FnOk P w K mg base CX0 1 T.f_law_product T.fd_law_product ["_law_one", "_law_other"] spProd := ok_law_product T
  refine T.F_law_power.ok sc_law_power (fun vs H Q E h => ?_) (fun cdv A outer s H vs Q E hr h => ?_)
  · obtain ⟨a, xs, n, rfl, _⟩ := h
    rfl
  · obtain ⟨a, xs, n, rfl, ha, nx, lx, hx, hp, hn, q⟩ := h
    refine ⟨_, (PSs.nox (pss_cons (ps_set (i := 2) sc_law_power.nd rfl (.inl rfl) (pe_tup (pa_cons pe_int pa_nil)))
    (pss_cons (ps_for PassesOwn.never (by rfl) (pi_range1 (by rfl) T.z_range (pa_cons (pv 1) pa_nil)) (pg_name (i := 3) sc_law_power.nd rfl (.inl rfl))
      (pss_one (ps_set (i := 2) sc_law_power.nd rfl (.inl rfl) (pe_call G_law_product hr (by rfl) T.g_law_product T.F_law_product.kp T.b_law_product .nil pass0 (pa_cons (pv 2) (pa_cons (pv 0) pa_nil))))))
    (pss_one (ps_ret (pv 2)))))), ?_⟩
    refine ⟨(by show 1 ≤ sizeLine; decide), fun p0 n0 => ⟨_, rfl, n, rfl, by omega, by omega, for_range (n := (n : Int).toNat) (fun i σ H' => ∃ r y3, σ = [some (.ref a), some (.int n), some (.ref r), y3] ∧ Same H H' ∧ H' r = some (tp (pow xs i))) ⟨p0, none, rfl, same_upd0 n0, upd_same⟩ (fun i σ H' hi hP => ?_) (fun σ H' hP => ?_)⟩⟩
    · obtain ⟨r, y3, rfl, sH, hr2⟩ := hP
      obtain ⟨h1, h2, h3⟩ := hp i (by omega)
      exact ⟨_, rfl, _, rfl, r, a, _, xs, rfl, hr2, sH _ _ ha, h1, nx, h2, lx, h3, hx, fun p H2 s2 _ hp2 => ⟨p, _, rfl, sH.trans s2, hp2⟩⟩
    · obtain ⟨r, y3, rfl, sH, hr2⟩ := hP
      rw [Int.toNat_natCast] at hr2
      exact ⟨_, rfl, q r H' sH hr2⟩
end
end K40

set_option Elab.async false
set_option linter.all false
set_option maxRecDepth 100000
set_option maxHeartbeats 4000000
namespace K40
open PySem PySem.Spec PyProof.Rows L2 StX RZ MyR SlX OwnR OwnF EnumT
section
variable {P : Program} {w : World} {K : PySem.W.Frag} {mg : Str → Option Value} {base : Heap}
end
end K40

set_option Elab.async false
set_option linter.all false
set_option maxRecDepth 100000
set_option maxHeartbeats 4000000
namespace K40
open PySem PySem.Spec PyProof.Rows L2 StX RZ MyR SlX OwnR OwnF EnumT
section
variable {P : Program} {w : World} {K : PySem.W.Frag} {mg : Str → Option Value} {base : Heap}
theorem dc_ne {H : Hp} {d p : Addr} {xs : List V} (hd : Dc H d) (hp : H p = some (.tup xs)) : p ≠ d := fun e => by
  obtain ⟨x, y, z, h⟩ := hd
  rw [e, h] at hp
  cases hp
end
end K40

set_option Elab.async false
set_option linter.all false
set_option maxRecDepth 100000
/-! how large the entries of products are -/
namespace K40
/-- the sum of the first n absolute values -/
def sN : Nat → (Nat → Int) → Nat
  | 0, _ => 0
  | n + 1, f => sN n f + (f n).natAbs
/-- the sum of the absolute values of the entries -/
def nm (l : List Int) : Nat := (l.map Int.natAbs).sum
theorem sN_add (f g : Nat → Int) : ∀ n, sN n (fun k => f k + g k) ≤ sN n f + sN n g
  | 0 => Nat.le_refl _
  | n + 1 => by
    have h1 := sN_add f g n
    have h2 := Int.natAbs_add_le (f n) (g n)
    show sN n (fun k => f k + g k) + (f n + g n).natAbs ≤ sN n f + (f n).natAbs + (sN n g + (g n).natAbs)
    omega
theorem sN_mul (c : Int) (f : Nat → Int) : ∀ n, sN n (fun k => c * f k) = c.natAbs * sN n f
  | 0 => rfl
  | n + 1 => by
    show sN n (fun k => c * f k) + (c * f n).natAbs = c.natAbs * (sN n f + (f n).natAbs)
    rw [sN_mul c f n, Int.natAbs_mul, Nat.mul_add]
theorem sN_sh (f : Nat → Int) : ∀ n, sN n (sh f) ≤ sN n f
  | 0 => Nat.le_refl _
  | 1 => Nat.zero_le _
  | n + 2 => by
    have key : ∀ n, sN (n + 1) (sh f) = sN n f := by
      intro n
      induction n with
      | zero => rfl
      | succ n ih =>
        show sN (n + 1) (sh f) + (f n).natAbs = sN n f + (f n).natAbs
        rw [ih]
    rw [key]
    exact Nat.le_add_right _ _
theorem sN_cv (g : Nat → Int) (n : Nat) : ∀ l : List Int, sN n (cv l g) ≤ nm l * sN n g
  | [] => by
    have : sN n (cv [] g) = 0 := by
      induction n with
      | zero => rfl
      | succ n ih => show sN n (cv [] g) + (0 : Int).natAbs = 0; rw [ih]; rfl
    omega
  | x :: xs => by
    have h1 := sN_cv g n xs
    have e : sN n (cv (x :: xs) g) = sN n (fun k => x * g k + sh (cv xs g) k) := by
      rw [show cv (x :: xs) g = fun k => x * g k + sh (cv xs g) k from funext (cv_cons x xs g)]
    have h2 := sN_add (fun k => x * g k) (sh (cv xs g)) n
    have h3 := sN_sh (cv xs g) n
    rw [e]
    rw [sN_mul] at h2
    show _ ≤ (x.natAbs + nm xs) * sN n g
    rw [Nat.add_mul]
    omega
theorem nm_snoc (l : List Int) (x : Int) : nm (l ++ [x]) = nm l + x.natAbs := by
  unfold nm
  rw [List.map_append, List.sum_append]
  simp
theorem nm_tb (f : Nat → Int) : ∀ n, nm (tb n f) = sN n f
  | 0 => rfl
  | n + 1 => by
    have e : tb (n + 1) f = tb n f ++ [f n] := by
      unfold tb
      rw [List.range_succ, List.map_append]
      rfl
    rw [e, nm_snoc, nm_tb f n]
    rfl
theorem nm_mem : ∀ {l : List Int} {x : Int}, x ∈ l → x.natAbs ≤ nm l
  | y :: ys, x, h => by
    show x.natAbs ≤ y.natAbs + nm ys
    rcases List.mem_cons.mp h with e | e
    · rw [e]; omega
    · have := nm_mem e; omega
theorem sN_co (l : List Int) (n : Nat) : sN n (co l) ≤ nm l := by
  by_cases h : n ≤ l.length
  · have mono : ∀ k, sN n (co l) ≤ sN (n + k) (co l) := by
      intro k
      induction k with
      | zero => exact Nat.le_refl _
      | succ k ih => exact Nat.le_trans ih (Nat.le_add_right _ _)
    have h1 := mono (l.length - n)
    rw [show n + (l.length - n) = l.length by omega] at h1
    rw [← nm_tb (co l) l.length, tb_co] at h1
    exact h1
  · have far : ∀ k, sN (l.length + k) (co l) = sN l.length (co l) := by
      intro k
      induction k with
      | zero => rfl
      | succ k ih =>
        show sN (l.length + k) (co l) + (co l (l.length + k)).natAbs = _
        rw [ih, co_far (by omega)]
        rfl
    have h1 := far (n - l.length)
    rw [show l.length + (n - l.length) = n by omega] at h1
    rw [h1, ← nm_tb (co l) l.length, tb_co]
    exact Nat.le_refl _
theorem nm_ml (l m : List Int) : nm (ml l m) ≤ nm l * nm m := by
  unfold ml
  rw [nm_tb]
  exact Nat.le_trans (sN_cv _ _ l) (Nat.mul_le_mul (Nat.le_refl _) (sN_co m _))
theorem nm_pl : ∀ (l m : List Int), nm (pl l m) ≤ nm l + nm m
  | [], _ => Nat.zero_le _
  | _ :: _, [] => Nat.zero_le _
  | x :: xs, y :: ys => by
    have h1 := nm_pl xs ys
    have h2 := Int.natAbs_add_le x y
    show (x + y).natAbs + nm (pl xs ys) ≤ x.natAbs + nm xs + (y.natAbs + nm ys)
    omega
theorem nm_scale (c : Int) : ∀ l : List Int, nm (l.map (c * ·)) = c.natAbs * nm l
  | [] => rfl
  | x :: xs => by
    show (c * x).natAbs + nm (xs.map (c * ·)) = c.natAbs * (x.natAbs + nm xs)
    rw [nm_scale c xs, Int.natAbs_mul, Nat.mul_add]
theorem nm_le {b : Nat} : ∀ {l : List Int}, (∀ x ∈ l, x.natAbs ≤ b) → nm l ≤ l.length * b
  | [], _ => Nat.zero_le _
  | x :: xs, h => by
    have h1 := nm_le (l := xs) fun y hy => h y (List.mem_cons_of_mem _ hy)
    have h2 := h x List.mem_cons_self
    show x.natAbs + nm xs ≤ (xs.length + 1) * b
    rw [Nat.succ_mul]
    omega
end K40

set_option Elab.async false
set_option linter.all false
set_option maxRecDepth 100000
set_option maxHeartbeats 4000000
namespace K40
open PySem PySem.Spec PyProof.Rows L2 StX RZ MyR SlX OwnR OwnF EnumT
section
variable {P : Program} {w : World} {K : PySem.W.Frag} {mg : Str → Option Value} {base : Heap}
end
end K40

set_option Elab.async false
set_option linter.all false
set_option maxRecDepth 100000
set_option maxHeartbeats 4000000
namespace K40
open PySem PySem.Spec PyProof.Rows L2 StX RZ MyR SlX OwnR OwnF EnumT
section
variable {P : Program} {w : World} {K : PySem.W.Frag} {mg : Str → Option Value} {base : Heap}
end
end K40

set_option Elab.async false
set_option linter.all false
set_option maxRecDepth 100000
/-! the primitive row of a primitive row -/
namespace K40
end K40

set_option Elab.async false
set_option linter.all false
set_option maxRecDepth 100000
/-! sums of rows, rows of 0 -/
namespace K40
theorem zs_one : ∀ xs ys : List Int, zs 1 xs ys = pl xs ys
  | [], _ => rfl
  | _ :: _, [] => rfl
  | x :: xs, y :: ys => by
    show (x + 1 * y) :: zs 1 xs ys = (x + y) :: pl xs ys
    rw [zs_one xs ys, Int.one_mul]
theorem map_mul_comm (c : Int) (l : List Int) : (l.map fun x => x * c) = l.map fun x => c * x := List.map_congr_left fun x _ => Int.mul_comm x c
end K40

set_option Elab.async false
set_option linter.all false
set_option maxRecDepth 100000
set_option maxHeartbeats 4000000
namespace K40
open PySem PySem.Spec PyProof.Rows L2 StX RZ MyR SlX OwnR OwnF EnumT
/-! ### drawn forms -/
/-- a row of a degree, with its size -/
structure Bd (l : List Int) (n b : Nat) : Prop where
  len : l.length = n + 1
  nm : nm l ≤ b
theorem Bd.ne {l : List Int} {n b : Nat} (h : Bd l n b) : l ≠ [] := fun e => by
  have := h.len
  rw [e] at this
  cases this
theorem Bd.mono {l : List Int} {n b c : Nat} (h : Bd l n b) (k : b ≤ c) : Bd l n c := ⟨h.len, Nat.le_trans h.nm k⟩
theorem Bd.mem {l : List Int} {n b : Nat} (h : Bd l n b) : ∀ x ∈ l, x.natAbs ≤ b := fun x hx => Nat.le_trans (nm_mem hx) h.nm
theorem Bd.rw {l : List Int} {n b : Nat} (h : Bd l n b) (hn : n ≤ 99) (hb : b < 2 ^ 4000) : Rw l := ⟨h.ne, by rw [h.len]; omega, fun x hx => Nat.lt_of_le_of_lt (h.mem x hx) hb⟩
theorem bd_ml {l m : List Int} {n k b c : Nat} (h : Bd l n b) (g : Bd m k c) : Bd (ml l m) (n + k) (b * c) :=
  ⟨by rw [ml_len, h.len, g.len]; omega, Nat.le_trans (nm_ml l m) (Nat.mul_le_mul h.nm g.nm)⟩
theorem bd_one : Bd [1] 0 1 := ⟨rfl, Nat.le_refl _⟩
theorem bd_pair {u v : Int} {m : Nat} (hu : u.natAbs ≤ m) (hv : v.natAbs ≤ m) : Bd [u, v] 1 (2 * m) := ⟨rfl, by
  show u.natAbs + (v.natAbs + 0) ≤ _
  omega⟩
theorem bd_small {l : List Int} {n m : Nat} (hl : l.length = n + 1) (h : ∀ x ∈ l, x.natAbs ≤ m) : Bd l n ((n + 1) * m) := ⟨hl, by
  have := nm_le h
  rw [hl] at this
  exact this⟩
theorem bd_pow {l : List Int} {b : Nat} (h : Bd l 1 b) : ∀ i, Bd (pow l i) i (b ^ i)
  | 0 => bd_one
  | i + 1 => by
    rw [Nat.pow_succ]
    exact bd_ml (bd_pow h i) h
theorem bd_zs {l m : List Int} {n b c : Nat} (h : Bd l n b) (g : Bd m n c) : Bd (zs 1 l m) n (b + c) := by
  rw [zs_one]
  exact ⟨by rw [pl_len (by rw [h.len, g.len]), h.len], Nat.le_trans (nm_pl l m) (Nat.add_le_add h.nm g.nm)⟩
theorem bd_scale {l : List Int} {n b d : Nat} {c : Int} (h : Bd l n b) (hc : c.natAbs ≤ d) : Bd (l.map (c * ·)) n (d * b) := ⟨by rw [List.length_map, h.len], by
  rw [nm_scale]
  exact Nat.mul_le_mul hc h.nm⟩
theorem p6 {i : Nat} (h : i ≤ 8) : 6 ^ i ≤ 1679616 := Nat.le_trans (Nat.pow_le_pow_right (by decide) h) (by decide)
theorem iteI {i j : Int} {A B : Prop} (h1 : i = j → A) (h2 : i ≠ j → B) : if decide (V.int i = V.int j) = true then A else B := by
  by_cases h : i = j
  · rw [decide_eq_true (by rw [h])]
    exact iteT (h1 h)
  · rw [decide_eq_false fun z => h (V.int.inj z)]
    exact iteF (h2 h)
section
variable {P : Program} {w : World} {K : PySem.W.Frag} {mg : Str → Option Value} {base : Heap}
end
end K40

set_option Elab.async false
set_option linter.all false
set_option maxRecDepth 100000
set_option maxHeartbeats 4000000
namespace K40
open PySem PySem.Spec PyProof.Rows L2 StX RZ MyR SlX OwnR OwnF EnumT
/-! what is said of forms by those who use them (for other laws: K40u, K40v, K40y hold the same) -/
section
variable {P : Program} {w : World} {K : PySem.W.Frag} {mg : Str → Option Value} {base : Heap}
def spLaw (K : PySem.W.Frag) : Sp := fun vs H Q _ => ∃ (a : Addr) (ns : List Int), vs = [.ref a] ∧ SqL K H a (ns.map V.int) ∧ ns.length ≤ 63 ∧ ∀ H', Q (.bl true) H'
/-- what is asked of a told row -/
structure Tr (l : List Int) : Prop where
  ne : l ≠ []
  len : l.length ≤ 40
  sho : ∀ x ∈ l, Sho x
theorem Tr.rw {l : List Int} (h : Tr l) : Rw l := ⟨h.ne, by have := h.len; omega, fun x hx => Nat.lt_trans (h.sho x hx) (by decide)⟩
theorem Tr.pos {l : List Int} (h : Tr l) : 1 ≤ l.length := List.length_pos_iff.mpr h.ne
theorem shaped_lints (ns : List Int) : SeqAt.shaped (.list (ns.map PyData.int)) = true := by
  unfold SeqAt.shaped
  rw [show PyData.canLay0 (.list (ns.map PyData.int)) = PyData.canLayAll0 (ns.map PyData.int) from rfl, lay_ints]
  rw [show PyData.depth (.list (ns.map PyData.int)) = PyData.depthAll (ns.map PyData.int) + 1 from rfl, depth_ints]
  rfl
theorem ne_lints {K : PySem.W.Frag} {H : Hp} {a b : Addr} {xs ys : List Int} {Q : VK} (ha : SqL K H a (xs.map V.int)) (hb : SqL K H b (ys.map V.int)) (q : Q (.bl (!decide (xs = ys))) H) : rNeD K (.ref a) (.ref b) H Q := by
  refine ⟨_, _, .lst ha (dpAll_ints xs), .lst hb (dpAll_ints ys), shaped_lints xs, shaped_lints ys, ?_⟩
  rw [show PyData.eqv (.list (xs.map PyData.int)) (.list (ys.map PyData.int)) = decide (xs = ys) from eqvAll_ints xs ys]
  exact q
theorem notFirst_self {K : PySem.W.Frag} {C : Addr} : PySem.W.notFirst K C (.ref C) = true := by
  unfold PySem.W.notFirst
  rw [beq_self_eq_true]
  rfl
/-- Form(t) -/
theorem made_form {C x dx t : Addr} {l : List Int} {H0 H2 : Hp} (hx : H0 x = none) (hdx : H0 dx = none) (hne : dx ≠ x) (s : Same (upd (upd H0 dx (.own x)) x (.ins C dx [])) H2) (ht : H0 t = some (tp l)) : Same H0 (slH H2 x C dx [some (.ref t)]) ∧ Fo C (slH H2 x C dx [some (.ref t)]) x l := by
  have s3 := made (v := .ref t) hx hdx hne s
  refine ⟨s3, dx, t, upd_same, ?_, s3 _ _ ht⟩
  unfold slH
  rw [upd_ne hne, upd_same]
theorem ne_forms {X : Cx} {C a b : Addr} {H : Hp} {xs ys : List Int} {Q : VK} (c : OC X.K C) (fa : Fo C H a xs) (fb : Fo C H b ys) (q : Q (.bl (!decide (xs = ys))) H) : rNeO X C (spEqF C) E0 (.ref a) (.ref b) H Q := by
  obtain ⟨dx, t, ha, _⟩ := fa.slt
  obtain ⟨dy, u, hb, _⟩ := fb.slt
  exact ⟨a, dx, _, .ref C, rfl, ha, .inst hb, notFirst_self, a, xs, b, rfl, fa, .inl ⟨ys, fb, _, rfl, q⟩⟩
theorem Fo.sx {C a d : Addr} {H H' : Hp} {ns : List Int} (h : Fo C H a ns) (hd : Dc H d) (s : Sx d H H') : Fo C H' a ns := by
  obtain ⟨dx, t, h1, h2, h3⟩ := h
  obtain ⟨x, y, z, e⟩ := hd
  refine ⟨dx, t, s _ _ (fun q => ?_) h1, s _ _ (fun q => ?_) h2, s _ _ (fun q => ?_) h3⟩
  · rw [q, e] at h1
    cases h1
  · rw [q, e] at h2
    cases h2
  · rw [q, e] at h3
    cases h3
theorem mkF {CT C x dx t : Addr} {H : Hp} {l : List Int} {R : Hp → Prop} (hx : H x = none) (hdx : H dx = none) (hne : dx ≠ x) (ht : H t = some (tp l)) (h1 : 1 ≤ l.length) (h2 : l.length ≤ 41) (hs : ∀ z ∈ l, Sho z) (q : ∀ H', Same H H' → Fo C H' x l → R H') :
    spForm CT C [.ref x, .ref t] (upd (upd H dx (.own x)) x (.ins C dx [])) (fun v H2 => v = .non ∧ R H2) E0 := by
  refine ⟨x, dx, t, t, rfl, .inl ⟨upd_same, rfl⟩, .inr ⟨l, rfl, ?_, h1, h2, hs⟩, fun H2 s2 => ⟨rfl, ?_⟩⟩
  · rw [upd_ne (ne_of_none ht hx), upd_ne (ne_of_none ht hdx)]
    exact ht
  · obtain ⟨s, f⟩ := made_form hx hdx hne s2 ht
    exact q _ s f
theorem Bd.tr {l : List Int} {n b : Nat} (h : Bd l n b) (hn : n ≤ 39) (hb : b < 10 ^ 60) : Tr l := ⟨h.ne, by rw [h.len]; omega, fun x hx => Nat.lt_of_le_of_lt (h.mem x hx) hb⟩
/-- a pair of a form and its row -/
structure Pa (C : Addr) (H : Hp) (v : V) (l : List Int) : Prop where
  tr : Tr l
  at_ : ∃ p f t, v = .ref p ∧ H p = some (.tup [.ref f, .ref t]) ∧ Fo C H f l ∧ H t = some (tp l)
theorem Pa.same {C : Addr} {H H' : Hp} {v : V} {l : List Int} (h : Pa C H v l) (s : Same H H') : Pa C H' v l := by
  obtain ⟨p, f, t, e, h1, h2, h3⟩ := h.at_
  exact ⟨h.tr, p, f, t, e, s _ _ h1, h2.same s, s _ _ h3⟩
theorem ml_one (l : List Int) : ml l [1] = l := by
  refine co_inj (by rw [ml_len]; show l.length + 1 - 1 = _; omega) fun k => ?_
  rw [co_ml (by simp), cv_congr (h := fun i => if i = 0 then 1 else 0) l k fun i _ => by cases i <;> rfl, cv_one]
theorem prop_ent {C a : Addr} {H : Hp} {xs : List Int} {Q : VK} (fa : Fo C H a xs) (q : ∀ t, H t = some (tp xs) → Q (.ref t) H) : ∃ a' dx vs, V.ref a = .ref a' ∧ Slt H a' C dx vs ∧ spEnt C [.ref a'] H Q E0 := by
  obtain ⟨dx, t, ha, _⟩ := fa.slt
  exact ⟨a, dx, _, rfl, ha, a, xs, rfl, fa, q⟩
theorem prop_zero {C a : Addr} {H : Hp} {xs : List Int} {Q : VK} (fa : Fo C H a xs) (q : Q (.bl (!xs.any (· != 0))) H) : ∃ a' dx vs, V.ref a = .ref a' ∧ Slt H a' C dx vs ∧ spIsZ C [.ref a'] H Q E0 := by
  obtain ⟨dx, t, ha, _⟩ := fa.slt
  exact ⟨a, dx, _, rfl, ha, a, xs, rfl, fa, q⟩
theorem prop_deg {C a : Addr} {H : Hp} {xs : List Int} {Q : VK} (fa : Fo C H a xs) (q : Q (.int ((xs.length : Int) - 1)) H) : ∃ a' dx vs, V.ref a = .ref a' ∧ Slt H a' C dx vs ∧ spDeg C [.ref a'] H Q E0 := by
  obtain ⟨dx, t, ha, _⟩ := fa.slt
  exact ⟨a, dx, _, rfl, ha, a, xs, rfl, fa, q⟩
/-- Form(t), t a written row -/
theorem mkB {CT C x dx t : Addr} {H : Hp} {l : List Int} {n b : Nat} {R : Hp → Prop} (hx : H x = none) (hdx : H dx = none) (hne : dx ≠ x) (ht : H t = some (tp l)) (bd : Bd l n b) (hn : n ≤ 39) (hb : b < 10 ^ 60) (q : ∀ H', Same H H' → Fo C H' x l → R H') :
    spForm CT C [.ref x, .ref t] (upd (upd H dx (.own x)) x (.ins C dx [])) (fun v H2 => v = .non ∧ R H2) E0 :=
  mkF hx hdx hne ht (bd.tr hn hb).pos (by have := (bd.tr hn hb).len; omega) (bd.tr hn hb).sho q
end
end K40

set_option Elab.async false
set_option linter.all false
set_option maxRecDepth 100000
/-! values of forms; a form is told by its values -/
namespace K40
/-- the value at x, y of the first n entries -/
def evF : Nat → (Nat → Int) → Int → Int → Int
  | 0, _, _, _ => 0
  | n + 1, g, x, y => x * evF n g x y + g n * y ^ n
def ev (l : List Int) (x y : Int) : Int := evF l.length (co l) x y
theorem evF_congr {g h : Nat → Int} {x y : Int} : ∀ n, (∀ i, i < n → g i = h i) → evF n g x y = evF n h x y
  | 0, _ => rfl
  | n + 1, e => by
    show x * evF n g x y + g n * y ^ n = x * evF n h x y + h n * y ^ n
    rw [evF_congr n fun i hi => e i (by omega), e n (by omega)]
theorem evF_add (g h : Nat → Int) (x y : Int) : ∀ n, evF n (fun i => g i + h i) x y = evF n g x y + evF n h x y
  | 0 => rfl
  | n + 1 => by
    show x * evF n (fun i => g i + h i) x y + (g n + h n) * y ^ n = (x * evF n g x y + g n * y ^ n) + (x * evF n h x y + h n * y ^ n)
    rw [evF_add g h x y n, Int.mul_add, Int.add_mul]
    omega
theorem evF_mul (c : Int) (g : Nat → Int) (x y : Int) : ∀ n, evF n (fun i => c * g i) x y = c * evF n g x y
  | 0 => by show (0 : Int) = c * 0; rw [Int.mul_zero]
  | n + 1 => by
    show x * evF n (fun i => c * g i) x y + (c * g n) * y ^ n = c * (x * evF n g x y + g n * y ^ n)
    rw [evF_mul c g x y n, Int.mul_add, Int.mul_assoc, ← Int.mul_assoc x c, Int.mul_comm x c, Int.mul_assoc]
theorem evF_sh (g : Nat → Int) (x y : Int) : ∀ n, evF (n + 1) (sh g) x y = y * evF n g x y
  | 0 => by
    show x * 0 + (0 : Int) * y ^ 0 = y * 0
    rw [Int.mul_zero, Int.zero_mul, Int.mul_zero]
    rfl
  | n + 1 => by
    show x * evF (n + 1) (sh g) x y + g n * y ^ (n + 1) = y * (x * evF n g x y + g n * y ^ n)
    rw [evF_sh g x y n, Int.mul_add, Int.pow_succ, ← Int.mul_assoc, Int.mul_comm x y, Int.mul_assoc, Int.mul_comm (y ^ n) y, ← Int.mul_assoc (g n), Int.mul_comm (g n) y, Int.mul_assoc y (g n)]
theorem evF_far {g : Nat → Int} (x y : Int) {n : Nat} (h : ∀ i, n ≤ i → g i = 0) : ∀ k, evF (n + k) g x y = x ^ k * evF n g x y
  | 0 => by rw [Nat.add_zero, Int.pow_zero, Int.one_mul]
  | k + 1 => by
    show x * evF (n + k) g x y + g (n + k) * y ^ (n + k) = _
    rw [evF_far x y h k, h _ (by omega), Int.zero_mul, Int.add_zero, Int.pow_succ, ← Int.mul_assoc, Int.mul_comm x]
theorem evF_zero (x y : Int) : ∀ n, evF n (fun _ => 0) x y = 0
  | 0 => rfl
  | n + 1 => by
    show x * evF n (fun _ => 0) x y + 0 * y ^ n = 0
    rw [evF_zero x y n, Int.mul_zero, Int.zero_mul]
    rfl
theorem ev_ml : ∀ {l m : List Int}, l ≠ [] → m ≠ [] → ∀ x y, ev (ml l m) x y = ev l x y * ev m x y := by
  intro l
  induction l with
  | nil => intro m h; exact absurd rfl h
  | cons a l ih =>
    intro m hl hm x y
    have hM : 0 < m.length := List.length_pos_iff.mpr hm
    have e0 : ev (ml (a :: l) m) x y = evF (l.length + m.length) (cv (a :: l) (co m)) x y := by
      unfold ev
      rw [ml_len, show (a :: l).length + m.length - 1 = l.length + m.length by rw [List.length_cons]; omega]
      exact evF_congr _ fun i _ => co_ml hm i
    rw [e0]
    have e1 : evF (l.length + m.length) (cv (a :: l) (co m)) x y = a * evF (l.length + m.length) (co m) x y + evF (l.length + m.length) (sh (cv l (co m))) x y := by
      rw [← evF_mul, ← evF_add]
      exact evF_congr _ fun i _ => cv_cons a l (co m) i
    rw [e1, show l.length + m.length = m.length + l.length by omega, evF_far x y (fun i hi => co_far hi) l.length]
    have e2 : ev (a :: l) x y = a * x ^ l.length + y * evF l.length (co l) x y := by
      unfold ev
      rw [List.length_cons]
      rw [show evF (l.length + 1) (co (a :: l)) x y = evF (l.length + 1) (fun i => a * (if i = 0 then 1 else 0) + sh (co l) i) x y from evF_congr _ fun i _ => by
        rw [co_cons]
        by_cases h : i = 0
        · rw [if_pos h, if_pos h, Int.mul_one]
        · rw [if_neg h, if_neg h, Int.mul_zero], evF_add, evF_mul, evF_sh]
      congr 1
      congr 1
      have h1 : evF (1 + l.length) (fun i => if i = 0 then (1 : Int) else 0) x y = x ^ l.length * evF 1 (fun i => if i = 0 then (1 : Int) else 0) x y := evF_far x y (n := 1) (fun i hi => if_neg (by omega)) l.length
      rw [show l.length + 1 = 1 + l.length by omega, h1]
      show x ^ l.length * (x * 0 + (if 0 = 0 then 1 else 0) * y ^ 0) = _
      rw [if_pos rfl, Int.mul_zero, Int.pow_zero, Int.mul_one, Int.zero_add, Int.mul_one]
    rw [e2]
    by_cases c : l = []
    · subst c
      show a * (x ^ 0 * evF m.length (co m) x y) + evF (m.length + 0) (sh (cv [] (co m))) x y = (a * x ^ 0 + y * 0) * ev m x y
      rw [show evF (m.length + 0) (sh (cv [] (co m))) x y = evF m.length (fun _ => 0) x y from evF_congr _ fun i _ => by cases i <;> rfl, evF_zero, Int.pow_zero, Int.one_mul, Int.mul_one, Int.mul_zero, Int.add_zero, Int.add_zero]
      rfl
    · have hL : 0 < l.length := List.length_pos_iff.mpr c
      have e3 : evF (m.length + l.length) (sh (cv l (co m))) x y = y * (ev l x y * ev m x y) := by
        rw [show m.length + l.length = (l.length + m.length - 1) + 1 by omega, evF_sh, ← ih c hm x y]
        congr 1
        unfold ev
        rw [ml_len]
        exact evF_congr _ fun i _ => (co_ml hm i).symm
      rw [e3]
      show a * (x ^ l.length * ev m x y) + y * (ev l x y * ev m x y) = (a * x ^ l.length + y * ev l x y) * ev m x y
      rw [Int.add_mul, Int.mul_assoc, Int.mul_assoc]
theorem ev_cons (a : Int) (l : List Int) (x y : Int) : ev (a :: l) x y = a * x ^ l.length + y * ev l x y := by
  unfold ev
  rw [List.length_cons]
  rw [show evF (l.length + 1) (co (a :: l)) x y = evF (l.length + 1) (fun i => a * (if i = 0 then 1 else 0) + sh (co l) i) x y from evF_congr _ fun i _ => by
    rw [co_cons]
    by_cases h : i = 0
    · rw [if_pos h, if_pos h, Int.mul_one]
    · rw [if_neg h, if_neg h, Int.mul_zero], evF_add, evF_mul, evF_sh]
  congr 1
  congr 1
  have h1 : evF (1 + l.length) (fun i => if i = 0 then (1 : Int) else 0) x y = x ^ l.length * evF 1 (fun i => if i = 0 then (1 : Int) else 0) x y := evF_far x y (n := 1) (fun i hi => if_neg (by omega)) l.length
  rw [show l.length + 1 = 1 + l.length by omega, h1]
  show x ^ l.length * (x * 0 + (if 0 = 0 then 1 else 0) * y ^ 0) = _
  rw [if_pos rfl, Int.mul_zero, Int.pow_zero, Int.mul_one, Int.zero_add, Int.mul_one]
/-- only the form with zeros has the value 0 everywhere -/
theorem evF_inj {g : Nat → Int} {M : Int} : ∀ n, (∀ i, i < n → (g i).natAbs < M.natAbs) → evF n g M 1 = 0 → ∀ i, i < n → g i = 0
  | 0, _, _, i, hi => absurd hi (Nat.not_lt_zero i)
  | n + 1, hb, e, i, hi => by
    have e' : M * evF n g M 1 + g n * 1 ^ n = 0 := e
    rw [Int.one_pow, Int.mul_one] at e'
    have hd : M ∣ g n := ⟨-evF n g M 1, by rw [Int.mul_neg]; omega⟩
    have hn : g n = 0 := Int.natAbs_eq_zero.mp (Nat.eq_zero_of_dvd_of_lt (Int.natAbs_dvd_natAbs.mpr hd) (hb n (by omega)))
    have hM : M ≠ 0 := fun z => by
      have := hb n (by omega)
      rw [z] at this
      exact absurd this (by simp)
    rw [hn, Int.add_zero] at e'
    have e2 : evF n g M 1 = 0 := (Int.mul_eq_zero.mp e').resolve_left hM
    by_cases c : i = n
    · rw [c]; exact hn
    · exact evF_inj n (fun j hj => hb j (by omega)) e2 i (by omega)
theorem ev_inj {l m : List Int} (hl : l.length = m.length) (h : ∀ x y, ev l x y = ev m x y) : l = m := by
  refine co_inj hl fun i => ?_
  by_cases c : i < l.length
  · have key := evF_inj (g := fun i => co l i + -1 * co m i) (M := ((nm l + nm m + 1 : Nat) : Int)) l.length (fun i _ => by
      rw [Int.natAbs_natCast]
      have h1 : (co l i).natAbs ≤ nm l := by
        rcases co_mem (l := l) (k := i) with e | e
        · rw [e]; exact Nat.zero_le _
        · exact nm_mem e
      have h2 : (co m i).natAbs ≤ nm m := by
        rcases co_mem (l := m) (k := i) with e | e
        · rw [e]; exact Nat.zero_le _
        · exact nm_mem e
      show (co l i + -1 * co m i).natAbs < _
      omega) (by
      rw [evF_add, evF_mul]
      have := h ((nm l + nm m + 1 : Nat) : Int) 1
      unfold ev at this
      rw [← hl] at this
      rw [this]
      omega) i c
    have key' : co l i + -1 * co m i = 0 := key
    omega
  · rw [co_far (by omega), co_far (by omega)]
end K40

set_option Elab.async false
set_option linter.all false
set_option maxRecDepth 100000
/-! changed forms, derived forms: the plain law -/
namespace K40
theorem ev_zs (c : Int) {l m : List Int} (h : l.length = m.length) (x y : Int) : ev (zs c l m) x y = ev l x y + c * ev m x y := by
  have hz : (zs c l m).length = l.length := by unfold zs; rw [List.length_zipWith, h, Nat.min_self]
  have co_zs : ∀ k, co (zs c l m) k = co l k + c * co m k := fun k => by
    unfold zs
    by_cases hk : k < l.length
    · rw [co_get (by rw [List.length_zipWith]; omega), co_get hk, co_get (by omega), List.getElem_zipWith]
    · rw [co_far (by rw [List.length_zipWith]; omega), co_far (by omega), co_far (by omega), Int.mul_zero]
      rfl
  unfold ev
  rw [hz, ← h, ← evF_mul, ← evF_add]
  exact evF_congr _ fun i _ => co_zs i
theorem ev_map (c : Int) (l : List Int) (x y : Int) : ev (l.map (c * ·)) x y = c * ev l x y := by
  unfold ev
  rw [List.length_map, ← evF_mul]
  exact evF_congr _ fun i _ => co_map c l i
theorem ev_one (x y : Int) : ev [1] x y = 1 := by
  rw [ev_cons]
  show 1 * x ^ 0 + y * 0 = 1
  rw [Int.pow_zero, Int.mul_zero]
  rfl
theorem ev_nil (x y : Int) : ev [] x y = 0 := rfl
theorem pow_ne {l : List Int} (h : l ≠ []) : ∀ n, pow l n ≠ []
  | 0 => by show [1] ≠ []; simp
  | n + 1 => ml_ne (pow_ne h n) h
theorem pow_len {l : List Int} (h : l.length = 2) : ∀ n, (pow l n).length = n + 1
  | 0 => rfl
  | n + 1 => by
    show (ml (pow l n) l).length = _
    rw [ml_len, pow_len h n, h]
    omega
theorem ev_pow {l : List Int} (h : l ≠ []) (x y : Int) : ∀ n, ev (pow l n) x y = ev l x y ^ n
  | 0 => by rw [Int.pow_zero]; exact ev_one x y
  | n + 1 => by
    show ev (ml (pow l n) l) x y = _
    rw [ev_ml (pow_ne h n) h, ev_pow h x y n, Int.pow_succ]
theorem zs_len {c : Int} {l m : List Int} (h : l.length = m.length) : (zs c l m).length = l.length := by unfold zs; rw [List.length_zipWith, h, Nat.min_self]
/-- how the program changes: the entries that are left, what is found, the power of the second row -/
def chg (X Y : List Int) : List Int → List Int → List Int → List Int
  | [], f, _ => f
  | e :: r, f, p => chg X Y r (zs e (ml f X) (ml p Y)) (ml p Y)
theorem chg_len {X Y : List Int} (hX : X.length = 2) (hY : Y.length = 2) : ∀ (r f p : List Int), f ≠ [] → f.length = p.length → (chg X Y r f p).length = f.length + r.length
  | [], f, p, _, _ => rfl
  | e :: r, f, p, nf, h => by
    have pf : 0 < f.length := List.length_pos_iff.mpr nf
    have l1 : (ml f X).length = f.length + 1 := by rw [ml_len, hX]; omega
    have l2 : (ml p Y).length = f.length + 1 := by rw [ml_len, hY, ← h]; omega
    have l3 : (zs e (ml f X) (ml p Y)).length = f.length + 1 := by rw [zs_len (by rw [l1, l2]), l1]
    show (chg X Y r (zs e (ml f X) (ml p Y)) (ml p Y)).length = _
    rw [chg_len hX hY r _ _ (fun z => by rw [z] at l3; cases l3) (by rw [l3, l2]), l3, List.length_cons]
    omega
theorem ev_chg {X Y : List Int} (hX : X.length = 2) (hY : Y.length = 2) (x y : Int) : ∀ (r f p : List Int), f ≠ [] → f.length = p.length →
    ev (chg X Y r f p) x y = ev f x y * ev X x y ^ r.length + ev p x y * ev Y x y * ev r (ev X x y) (ev Y x y)
  | [], f, p, _, _ => by
    show ev f x y = ev f x y * ev X x y ^ 0 + ev p x y * ev Y x y * 0
    rw [Int.pow_zero, Int.mul_one, Int.mul_zero, Int.add_zero]
  | e :: r, f, p, nf, h => by
    have pf : 0 < f.length := List.length_pos_iff.mpr nf
    have np : p ≠ [] := fun z => by rw [z] at h; simp at h; exact nf h
    have nX : X ≠ [] := fun z => by rw [z] at hX; cases hX
    have nY : Y ≠ [] := fun z => by rw [z] at hY; cases hY
    have l1 : (ml f X).length = f.length + 1 := by rw [ml_len, hX]; omega
    have l2 : (ml p Y).length = f.length + 1 := by rw [ml_len, hY, ← h]; omega
    have l3 : (zs e (ml f X) (ml p Y)).length = f.length + 1 := by rw [zs_len (by rw [l1, l2]), l1]
    show ev (chg X Y r (zs e (ml f X) (ml p Y)) (ml p Y)) x y = _
    rw [ev_chg hX hY x y r _ _ (fun z => by rw [z] at l3; cases l3) (by rw [l3, l2]), ev_zs e (by rw [l1, l2]), ev_ml nf nX, ev_ml np nY, ev_cons, List.length_cons, Int.pow_succ]
    generalize ev f x y = a
    generalize ev p x y = b
    generalize ev X x y = u
    generalize ev Y x y = v
    generalize ev r u v = w
    generalize u ^ r.length = z
    grind
/-- the changed form -/
def changed (X Y l : List Int) : List Int := chg X Y l.tail [co l 0] [1]
theorem changed_len {X Y l : List Int} (hX : X.length = 2) (hY : Y.length = 2) (h : l ≠ []) : (changed X Y l).length = l.length := by
  match l, h with
  | a :: r, _ =>
    show (chg X Y r [a] [1]).length = _
    rw [chg_len hX hY r [a] [1] (by simp) rfl]
    show 1 + r.length = r.length + 1
    omega
theorem ev_changed {X Y l : List Int} (hX : X.length = 2) (hY : Y.length = 2) (h : l ≠ []) (x y : Int) : ev (changed X Y l) x y = ev l (ev X x y) (ev Y x y) := by
  match l, h with
  | a :: r, _ =>
    show ev (chg X Y r [a] [1]) x y = _
    rw [ev_chg hX hY x y r [a] [1] (by simp) rfl, ev_one, ev_cons a r, Int.one_mul, ev_cons a []]
    show (a * x ^ 0 + y * 0) * _ + _ = _
    rw [Int.pow_zero, Int.mul_one, Int.mul_zero, Int.add_zero]
/-- how the law changes: the first i entries -/
def chL (X Y l : List Int) : Nat → List Int
  | 0 => List.replicate l.length 0
  | i + 1 => zs 1 (chL X Y l i) ((ml (pow X (l.length - 1 - i)) (pow Y i)).map (co l i * ·))
theorem chL_len {X Y l : List Int} (hX : X.length = 2) (hY : Y.length = 2) : ∀ i, i ≤ l.length → (chL X Y l i).length = l.length
  | 0, _ => List.length_replicate
  | i + 1, h => by
    have l1 := chL_len (l := l) hX hY i (by omega)
    have l2 : ((ml (pow X (l.length - 1 - i)) (pow Y i)).map (co l i * ·)).length = l.length := by
      rw [List.length_map, ml_len, pow_len hX, pow_len hY]
      omega
    show (zs 1 (chL X Y l i) _).length = _
    rw [zs_len (by rw [l1, l2]), l1]
theorem ev_rep (n : Nat) (x y : Int) : ev (List.replicate n 0) x y = 0 := by
  unfold ev
  rw [show evF (List.replicate n (0 : Int)).length (co (List.replicate n 0)) x y = evF (List.replicate n (0 : Int)).length (fun _ => 0) x y from evF_congr _ fun i hi => by
    rw [co_get hi, List.getElem_replicate], evF_zero]
theorem ev_chL {X Y l : List Int} (hX : X.length = 2) (hY : Y.length = 2) (x y : Int) : ∀ i, i < l.length → ev (chL X Y l (i + 1)) x y = ev X x y ^ (l.length - 1 - i) * evF (i + 1) (co l) (ev X x y) (ev Y x y)
  | i, h => by
    have nX : X ≠ [] := fun z => by rw [z] at hX; cases hX
    have nY : Y ≠ [] := fun z => by rw [z] at hY; cases hY
    have l1 := chL_len (l := l) hX hY i (by omega)
    have l2 : ((ml (pow X (l.length - 1 - i)) (pow Y i)).map (co l i * ·)).length = l.length := by
      rw [List.length_map, ml_len, pow_len hX, pow_len hY]
      omega
    have ih : ev (chL X Y l i) x y = ev X x y ^ (l.length - 1 - i) * (ev X x y * evF i (co l) (ev X x y) (ev Y x y)) := by
      match i, h with
      | 0, _ =>
        show ev (List.replicate l.length 0) x y = _ * (_ * 0)
        rw [ev_rep, Int.mul_zero, Int.mul_zero]
      | j + 1, h =>
        rw [ev_chL hX hY x y j (by omega), show l.length - 1 - j = (l.length - 1 - (j + 1)) + 1 by omega, Int.pow_succ, Int.mul_assoc]
    show ev (zs 1 (chL X Y l i) _) x y = ev X x y ^ (l.length - 1 - i) * (ev X x y * evF i (co l) (ev X x y) (ev Y x y) + co l i * ev Y x y ^ i)
    rw [ev_zs 1 (by rw [l1, l2]), ev_map, ev_ml (pow_ne nX _) (pow_ne nY _), ev_pow nX, ev_pow nY, ih]
    generalize ev X x y ^ (l.length - 1 - i) = A
    generalize ev Y x y ^ i = B
    generalize ev X x y = u
    generalize evF i (co l) u (ev Y x y) = w
    grind
theorem chL_all {X Y l : List Int} (hX : X.length = 2) (hY : Y.length = 2) (h : l ≠ []) : chL X Y l l.length = changed X Y l := by
  have pl : 0 < l.length := List.length_pos_iff.mpr h
  refine ev_inj (by rw [chL_len hX hY _ (Nat.le_refl _), changed_len hX hY h]) fun x y => ?_
  rw [ev_changed hX hY h]
  have := ev_chL (l := l) hX hY x y (l.length - 1) (by omega)
  rw [show l.length - 1 + 1 = l.length by omega, Nat.sub_self, Int.pow_zero, Int.one_mul] at this
  exact this
theorem ev2 (a b x y : Int) : ev [a, b] x y = a * x + b * y := by
  rw [ev_cons, ev_cons, ev_nil]
  show a * x ^ 1 + y * (b * x ^ 0 + y * 0) = _
  rw [Int.pow_zero, Int.pow_succ, Int.pow_zero]
  grind
theorem pow_zero {c : Int} : ∀ {n : Nat}, c ^ n = 0 → c = 0
  | 0, h => by rw [Int.pow_zero] at h; cases h
  | n + 1, h => by
    rw [Int.pow_succ] at h
    rcases Int.mul_eq_zero.mp h with e | e
    · exact pow_zero e
    · exact e
/-! ### derivatives -/
/-- derived by x, by y -/
def dX (l : List Int) : List Int := tb (l.length - 1) fun k => co l k * ((l.length : Int) - 1 - k)
def dY (l : List Int) : List Int := tb (l.length - 1) fun k => co l (k + 1) * ((k : Int) + 1)
theorem dX_len (l : List Int) : (dX l).length = l.length - 1 := tb_len _ _
theorem dY_len (l : List Int) : (dY l).length = l.length - 1 := tb_len _ _
theorem co_zs' (c : Int) {l m : List Int} (h : l.length = m.length) (k : Nat) : co (zs c l m) k = co l k + c * co m k := by
  unfold zs
  by_cases hk : k < l.length
  · rw [co_get (by rw [List.length_zipWith]; omega), co_get hk, co_get (by omega), List.getElem_zipWith]
  · rw [co_far (by rw [List.length_zipWith]; omega), co_far (by omega), co_far (by omega), Int.mul_zero]
    rfl
def it (f : List Int → List Int) : Nat → List Int → List Int
  | 0, l => l
  | n + 1, l => f (it f n l)
theorem dX_it_len (l : List Int) : ∀ n, (it dX n l).length = l.length - n
  | 0 => rfl
  | n + 1 => by
    show (dX (it dX n l)).length = _
    rw [dX_len, dX_it_len l n]
    omega
theorem dY_it_len (l : List Int) : ∀ n, (it dY n l).length = l.length - n
  | 0 => rfl
  | n + 1 => by
    show (dY (it dY n l)).length = _
    rw [dY_len, dY_it_len l n]
    omega
/-- derived i times by x, j times by y -/
def dd (i j : Nat) (l : List Int) : List Int := it dY j (it dX i l)
theorem dd_len (i j : Nat) (l : List Int) : (dd i j l).length = l.length - i - j := by
  unfold dd
  rw [dY_it_len, dX_it_len]
end K40

set_option Elab.async false
set_option linter.all false
set_option maxRecDepth 100000
set_option maxHeartbeats 4000000
namespace K40
open PySem PySem.Spec PyProof.Rows L2 StX RZ MyR SlX OwnR OwnF EnumT
/-- a comprehension over enumerate of a tuple -/
theorem lc_enumT {K : PySem.W.Frag} {a : Addr} {xs : List V} {g : TG} {tt : TT} {te : TE} {vs : List Nat} {σ : L2.St} {H1 : Hp} {D : Addr} {Qd : Hp → Prop} (Pv : Nat → Hp → Prop) (h0 : Pv 0 (upd H1 D (.lst []))) (hq : ∀ i H, i ≤ xs.length → Pv i H → SqT K H a xs)
    (hs : ∀ (i : Nat) (x : V) (T : Addr) (H : Hp), xs[i]? = some x → Pv i H → H T = none → g (.ref T) (wipe σ vs) (upd H T (.tup [.int (i : Nat), x])) fun σ2 H2 => wipe σ2 vs = wipe σ vs ∧ tt σ2 H2 fun b H3 =>
      if b = true then te σ2 H3 fun y H4 => ∃ acc, H4 D = some (.lst acc) ∧ acc.length < sizeLine ∧ Pv (i + 1) (upd H4 D (.lst (acc ++ [y]))) else Pv (i + 1) H3) (hd : ∀ H, Pv xs.length H → Qd H) :
    ∃ W : Nat → Nat → Hp → Prop, (∃ m, W 0 m (upd H1 D (.lst []))) ∧ ∀ i m H, W i m H →
      ((IteT K a).stop i H ∧ Qd H) ∨ ((IteT K a).go i H ∧ ∃ Nx : Hp → Prop, (∀ H', Nx H' → ∃ m', m' < m ∧ W (i + 1) m' H') ∧ ∀ x H', (IteT K a).yld i H x H' → g x (wipe σ vs) H' fun σ2 H2 => wipe σ2 vs = wipe σ vs ∧ tt σ2 H2 fun b H3 =>
        if b = true then te σ2 H3 fun y H4 => ∃ acc, H4 D = some (.lst acc) ∧ acc.length < sizeLine ∧ Nx (upd H4 D (.lst (acc ++ [y]))) else Nx H3) := by
  refine ⟨fun i m H => m = xs.length - i ∧ i ≤ xs.length ∧ Pv i H, ⟨xs.length, by simp, Nat.zero_le _, h0⟩, ?_⟩
  rintro i m H ⟨rfl, hi, p⟩
  have qx := hq i H hi p
  by_cases hlt : i < xs.length
  · have hx : xs[i]? = some xs[i] := List.getElem?_eq_getElem hlt
    refine .inr ⟨⟨xs, _, qx, hx⟩, Pv (i + 1), fun H' p' => ⟨xs.length - (i + 1), by omega, rfl, hlt, p'⟩, fun v H' y => ?_⟩
    obtain ⟨T, x', rfl, hT, rfl, f1⟩ := y
    exact hs i x' T H (f1 xs qx) p hT
  · have e : i = xs.length := by omega
    subst e
    exact .inl ⟨⟨xs, qx, rfl⟩, hd H p⟩
section
variable {P : Program} {w : World} {K : PySem.W.Frag} {mg : Str → Option Value} {base : Heap}
def spFrom : Sp := fun vs H Q _ => ∃ i lo hi : Int, vs = [.int i, .int lo, .int hi] ∧ lo ≤ i ∧ i ≤ hi ∧ Q (.bl true) H
theorem ok_is_from (T : Facts K mg) : FnOk P w K mg base CX0 2 T.f_is_from T.fd_is_from ["value", "least", "most"] spFrom := by
  have G_is_whole : FnOk P w K mg base CX0 1 T.f_is_whole T.fd_is_whole ["value"] spWhole := ok_is_whole T
  refine T.F_is_from.ok sc_is_from (fun vs H Q E h => ?_) (fun cdv A outer s H vs Q E hr h => ?_)
  · obtain ⟨i, lo, hi, rfl, _⟩ := h
    rfl
  · obtain ⟨i, lo, hi, rfl, h1, h2, q⟩ := h
    refine ⟨_, (PSs.nox (pss_one (ps_ret (pe_and (pe_call G_is_whole hr (by rfl) T.g_is_whole T.F_is_whole.kp T.b_is_whole .nil pass0 (pa_cons (pv 0) pa_nil)) (pe_one (pe_chain op_le op_le (pv 1) (pv 0) (pv 2))))))), ?_⟩
    refine ⟨_, rfl, i, rfl, true, rfl, iteT ⟨_, rfl, _, rfl, _, _, rfl, rfl, true, ?_, iteT ⟨_, rfl, _, _, rfl, rfl, ?_⟩⟩⟩
    · show V.bl (decide (lo ≤ i)) = _
      rw [decide_eq_true h1]
    · show Q (V.bl (decide (i ≤ hi))) H
      rw [decide_eq_true h2]
      exact q
/-! ### values -/
/-- what is asked of a value's letters -/
structure Vb (l : List Int) (x y : Int) (M : Nat) : Prop where
  x : x.natAbs ≤ M
  y : y.natAbs ≤ M
  one : 1 ≤ M
  big : nm l * M ^ l.length < 2 ^ 4000
  pw : M ^ (l.length + 1) < 2 ^ 4000
/-! ### changes -/
/-- a table of two rows of two -/
def Tb (H : Hp) (t : Addr) (X Y : List Int) : Prop := ∃ r0 r1, H t = some (.tup [.ref r0, .ref r1]) ∧ H r0 = some (tp X) ∧ H r1 = some (tp Y)
theorem Tb.same {H H' : Hp} {t : Addr} {X Y : List Int} (h : Tb H t X Y) (s : Same H H') : Tb H' t X Y := by
  obtain ⟨r0, r1, h1, h2, h3⟩ := h
  exact ⟨r0, r1, s _ _ h1, s _ _ h2, s _ _ h3⟩
theorem Tb.sx {H H' : Hp} {t d : Addr} {X Y : List Int} (h : Tb H t X Y) (hd : Dc H d) (s : Sx d H H') : Tb H' t X Y := by
  obtain ⟨r0, r1, h1, h2, h3⟩ := h
  exact ⟨r0, r1, s _ _ (dc_ne hd h1) h1, s _ _ (dc_ne hd h2) h2, s _ _ (dc_ne hd h3) h3⟩
/-- short pairs -/
structure Pr2 (X : List Int) : Prop where
  len : X.length = 2
  sho : ∀ x ∈ X, Sho x
theorem sIx_neg {n : Nat} (h : 1 ≤ n) : HT.sIx n n (some (-1)) = n - 1 := by
  unfold HT.sIx
  simp only []
  split <;> omega
theorem cut_tail (xs : List V) (h : 1 ≤ xs.length) : cutV xs (some 1) none = xs.drop 1 := by
  unfold cutV
  have e1 : HT.sIx xs.length 0 (some 1) = 1 := by
    unfold HT.sIx
    simp only []
    split <;> omega
  have e2 : HT.sIx xs.length xs.length none = xs.length := rfl
  rw [e1, e2]
  exact List.take_of_length_le (by rw [List.length_drop]; omega)
theorem cut_init (xs : List V) (h : 1 ≤ xs.length) : cutV xs none (some (-1)) = xs.take (xs.length - 1) := by
  unfold cutV
  have e1 : HT.sIx xs.length 0 none = 0 := rfl
  rw [e1, sIx_neg h, List.drop_zero, Nat.sub_zero]
end
end K40

set_option Elab.async false
set_option linter.all false
set_option maxRecDepth 100000
set_option maxHeartbeats 4000000
namespace K40
open PySem PySem.Spec PyProof.Rows L2 StX RZ MyR SlX OwnR OwnF EnumT
section
variable {P : Program} {w : World} {K : PySem.W.Frag} {mg : Str → Option Value} {base : Heap}
/-- all that is derived on the way is let -/
structure DdOk (i j : Nat) (l : List Int) : Prop where
  len : i + j + 1 ≤ l.length
  le : l.length ≤ 100
  sx : ∀ u, u ≤ i → ∀ z ∈ it dX u l, sm z
  sy : ∀ u, u ≤ j → ∀ z ∈ it dY u (it dX i l), sm z
def spDerived : Sp := fun vs H Q _ => ∃ (a : Addr) (l : List Int) (i j : Nat), vs = [.ref a, .int i, .int j] ∧ H a = some (tp l) ∧ DdOk i j l ∧ ∀ p H', Same H H' → H' p = some (tp (dd i j l)) → Q (.ref p) H'
theorem ecut_init {l : List Int} (h : 1 ≤ l.length) : HO.tup (cutV (l.map V.int) none (some (-1))) = tp (l.take (l.length - 1)) := by
  rw [cut_init _ (by rw [List.length_map]; exact h), ← List.map_take, List.length_map]
theorem ecut_tail {l : List Int} (h : 1 ≤ l.length) : HO.tup (cutV (l.map V.int) (some 1) none) = tp (l.drop 1) := by
  rw [cut_tail _ (by rw [List.length_map]; exact h), ← List.map_drop]
theorem co_take {l : List Int} {n k : Nat} (h : k < n) : co (l.take n) k = co l k := by
  unfold co
  rw [List.getD_eq_getElem?_getD, List.getD_eq_getElem?_getD, List.getElem?_take_of_lt h]
theorem co_drop1 (l : List Int) (k : Nat) : co (l.drop 1) k = co l (k + 1) := by
  unfold co
  rw [List.getD_eq_getElem?_getD, List.getD_eq_getElem?_getD, List.getElem?_drop, Nat.add_comm]
theorem Pr2.rw {X : List Int} (h : Pr2 X) : Rw X := ⟨fun z => (by have := h.len; rw [z] at this; cases this), (by rw [h.len]; decide), fun x hx => Nat.lt_trans (h.sho x hx) (by decide)⟩
end
end K40

set_option Elab.async false
set_option linter.all false
set_option maxRecDepth 100000
set_option maxHeartbeats 4000000
namespace K40
open PySem PySem.Spec PyProof.Rows L2 StX RZ MyR SlX OwnR OwnF EnumT
/-! ### how large changed and derived forms are -/
theorem bd_zs' {l m : List Int} {n b c : Nat} (e : Int) (h : Bd l n b) (g : Bd m n c) : Bd (zs e l m) n (b + e.natAbs * c) := by
  have hz : zs e l m = zs 1 l (m.map (e * ·)) := by
    refine co_inj (by rw [zs_len (by rw [h.len, g.len]), zs_len (by rw [List.length_map, h.len, g.len])]) fun k => ?_
    rw [co_zs' e (by rw [h.len, g.len]), co_zs' 1 (by rw [List.length_map, h.len, g.len]), co_map, Int.one_mul]
  rw [hz]
  exact bd_zs h (bd_scale g (Nat.le_refl _))
theorem nm_cons (x : Int) (xs : List Int) : nm (x :: xs) = x.natAbs + nm xs := rfl
theorem chg_bd {X Y : List Int} {b : Nat} (hX : Bd X 1 b) (hY : Bd Y 1 b) : ∀ (r f p : List Int) (k S : Nat), Bd f k (S * b ^ k) → Bd p k (b ^ k) → Bd (chg X Y r f p) (k + r.length) ((S + nm r) * b ^ (k + r.length))
  | [], f, p, k, S, hf, hp => hf
  | e :: r, f, p, k, S, hf, hp => by
    have h1 := bd_ml hf hX
    have h2 := bd_ml hp hY
    have h3 := bd_zs' e h1 h2
    have h4 : Bd (zs e (ml f X) (ml p Y)) (k + 1) ((S + e.natAbs) * b ^ (k + 1)) := by
      refine h3.mono (Nat.le_of_eq ?_)
      rw [Nat.add_mul, Nat.pow_succ, Nat.mul_assoc]
    have h5 := chg_bd hX hY r _ _ (k + 1) (S + e.natAbs) h4 (by rw [Nat.pow_succ]; exact h2)
    rw [List.length_cons, nm_cons, show k + (r.length + 1) = k + 1 + r.length by omega, show S + (e.natAbs + nm r) = S + e.natAbs + nm r by omega]
    exact h5
theorem changed_bd {X Y l : List Int} {n b B : Nat} (hX : Bd X 1 b) (hY : Bd Y 1 b) (hl : Bd l n B) : Bd (changed X Y l) n (B * b ^ n) := by
  match l, hl with
  | a :: r, hl =>
    have hr : r.length = n := by have := hl.len; rw [List.length_cons] at this; omega
    have h0 : Bd [a] 0 (a.natAbs * b ^ 0) := ⟨rfl, by show a.natAbs + 0 ≤ _; rw [Nat.pow_zero]; omega⟩
    have := chg_bd hX hY r [a] [1] 0 a.natAbs h0 bd_one
    rw [Nat.zero_add, hr] at this
    exact this.mono (Nat.mul_le_mul (by have := hl.nm; rw [nm_cons] at this; exact this) (Nat.le_refl _))
theorem sN_le_mul {f g : Nat → Int} {c : Nat} : ∀ n, (∀ k, k < n → (f k).natAbs ≤ c * (g k).natAbs) → sN n f ≤ c * sN n g
  | 0, _ => Nat.zero_le _
  | n + 1, h => by
    show sN n f + (f n).natAbs ≤ c * (sN n g + (g n).natAbs)
    have h1 := sN_le_mul n fun k hk => h k (by omega)
    have h2 := h n (by omega)
    rw [Nat.mul_add]
    omega
theorem nm_drop1 (l : List Int) : nm (l.drop 1) ≤ nm l := by
  cases l with
  | nil => exact Nat.le_refl _
  | cons x xs => exact Nat.le_add_left _ _
theorem nm_dX (l : List Int) : nm (dX l) ≤ l.length * nm l := by
  unfold dX
  rw [nm_tb]
  refine Nat.le_trans (sN_le_mul (g := co l) (c := l.length) _ fun k hk => ?_) (Nat.mul_le_mul (Nat.le_refl _) (sN_co l _))
  rw [Int.natAbs_mul, Nat.mul_comm]
  exact Nat.mul_le_mul (by omega) (Nat.le_refl _)
theorem nm_dY (l : List Int) : nm (dY l) ≤ l.length * nm l := by
  unfold dY
  rw [nm_tb]
  refine Nat.le_trans (sN_le_mul (g := co (l.drop 1)) (c := l.length) _ fun k hk => ?_) (Nat.mul_le_mul (Nat.le_refl _) (Nat.le_trans (sN_co (l.drop 1) _) (nm_drop1 l)))
  rw [Int.natAbs_mul, Nat.mul_comm, co_drop1]
  exact Nat.mul_le_mul (by omega) (Nat.le_refl _)
theorem nm_dX_it (l : List Int) : ∀ u, nm (it dX u l) ≤ l.length ^ u * nm l
  | 0 => by rw [Nat.pow_zero, Nat.one_mul]; exact Nat.le_refl _
  | u + 1 => by
    have h1 := nm_dX (it dX u l)
    have h2 := nm_dX_it l u
    rw [dX_it_len] at h1
    show nm (dX (it dX u l)) ≤ _
    rw [Nat.pow_succ, Nat.mul_comm (l.length ^ u), Nat.mul_assoc]
    exact Nat.le_trans h1 (Nat.mul_le_mul (by omega) h2)
theorem nm_dY_it (l : List Int) : ∀ u, nm (it dY u l) ≤ l.length ^ u * nm l
  | 0 => by rw [Nat.pow_zero, Nat.one_mul]; exact Nat.le_refl _
  | u + 1 => by
    have h1 := nm_dY (it dY u l)
    have h2 := nm_dY_it l u
    rw [dY_it_len] at h1
    show nm (dY (it dY u l)) ≤ _
    rw [Nat.pow_succ, Nat.mul_comm (l.length ^ u), Nat.mul_assoc]
    exact Nat.le_trans h1 (Nat.mul_le_mul (by omega) h2)
theorem nm_dd (i j : Nat) (l : List Int) (h : 1 ≤ l.length) : nm (dd i j l) ≤ l.length ^ (i + j) * nm l := by
  unfold dd
  refine Nat.le_trans (nm_dY_it (it dX i l) j) ?_
  rw [dX_it_len]
  refine Nat.le_trans (Nat.mul_le_mul (Nat.pow_le_pow_left (show l.length - i ≤ l.length by omega) j) (nm_dX_it l i)) (Nat.le_of_eq ?_)
  rw [Nat.pow_add, ← Nat.mul_assoc, Nat.mul_comm (l.length ^ j)]
end K40

set_option Elab.async false
set_option linter.all false
set_option maxRecDepth 100000
set_option maxHeartbeats 4000000
namespace K40
open PySem PySem.Spec PyProof.Rows L2 StX RZ MyR SlX OwnR OwnF EnumT
section
variable {P : Program} {w : World} {K : PySem.W.Frag} {mg : Str → Option Value} {base : Heap}
def spByX : Sp := fun vs H Q _ => ∃ (a : Addr) (m : List Int), vs = [.ref a] ∧ H a = some (tp m) ∧ 1 ≤ m.length ∧ m.length ≤ 100 ∧ (∀ z ∈ m, sm z) ∧ ∀ p H', Same H H' → H' p = some (tp (dX m)) → Q (.ref p) H'
theorem ok_law_by_x (T : Facts K mg) : FnOk P w K mg base CX0 1 T.f_law_by_x T.fd_law_by_x ["_law_form"] spByX := by
  refine T.F_law_by_x.ok sc_law_by_x (fun vs H Q E h => ?_) (fun cdv A outer s H vs Q E hr h => ?_)
  · obtain ⟨a, m, rfl, _⟩ := h
    rfl
  · obtain ⟨a, m, rfl, ha, h1, h2, sm1, q⟩ := h
    refine ⟨_, (PSs.nox (pss_one (ps_ret (pe_tupleOf (by rfl) T.z_tuple (pe_lc (own := [("_law_at", 1), ("_law_entry", 2)]) (g := (gTup K 2 (gCons (gName 1) (gCons (gName 2) gNil)))) (tt := tYes) (by rfl) sc_law_by_x.nd (pi_enumT (by rfl) T.z_enumerate (pa_cons (pe_slice sl_tupA (pv 0) po_none (po_some (pe_un un_neg pe_int))) pa_nil)) (blkOk_by (N := N_law_by_x) (sc := defScope s_law_by_x) (by decide +kernel)) (fun _ _ _ _ _ => (pg_tup (by rfl) (pgs_cons (pg_name (i := 1) sc_law_by_x.nd rfl (.inl rfl)) (pgs_cons (pg_name (i := 2) sc_law_by_x.nd rfl (.inl rfl)) pgs_nil)))) (fun _ _ _ _ _ => pts_nil) (fun _ _ _ _ _ => (pe_op op_mulW (pv 2) (pe_op op_sub (pe_op op_sub (pe_callB (call_len_seq : CallR _ _ (Evl.rLenS K)) (by rfl) T.z_len (by decide +kernel) (pa_cons (pv 0) pa_nil)) pe_int) (pv 1))))))))), ?_⟩
    refine ⟨_, rfl, _, rfl, _, rfl, a, _, rfl, SqT.of ha, fun z => absurd z.2 (by rw [List.length_map, sIx_neg (by omega)]; omega), fun _ p np => ?_⟩
    rw [ecut_init (by omega)]
    refine gen_upd H p _ np fun H2 s2 f2 => ⟨p, _, rfl, SqT.of f2, fun D hD => lc_enumT (xs := (m.take (m.length - 1)).map V.int) (fun k H' => Same H2 H' ∧ H' D = some (.lst (tab k fun k => co m k * ((m.length : Int) - 1 - k)))) ⟨same_upd0 hD, upd_same⟩ (fun k H' _ hP => SqT.of (hP.1 _ _ f2)) (fun k x B H' hx hP hB => ?_) (fun H3 hP => ?_)⟩
    · obtain ⟨sH, hL⟩ := hP
      obtain ⟨hk, rfl⟩ := int_get hx
      rw [List.length_take] at hk
      rw [co_take (by omega)]
      refine gen_upd H' B _ hB fun H4 s4 f4 => ⟨B, _, rfl, SqT.of f4, rfl, _, _, rfl, _, _, rfl, rfl, rfl, ?_⟩
      have hfB := (s2.trans (sH.trans s4)) _ _ ha
      refine ⟨_, rfl, _, rfl, a, _, rfl, .inr (SqT.of hfB), ?_⟩
      rw [List.length_map]
      refine ⟨_, _, rfl, rfl, _, rfl, _, _, rfl, rfl, _, _, rfl, rfl, sm_mul (sm_co sm1 (by omega)) (Nat.lt_of_le_of_lt (show ((m.length : Int) - 1 - (k : Int)).natAbs ≤ 100 by omega) (Nat.lt_of_lt_of_le (show 100 < 2 ^ 7 by decide) (Nat.pow_le_pow_right (by decide) (by decide)))), _, s4 _ _ hL, ?_, fun b o e => ?_, ?_⟩
      · rw [tab_len]
        exact small1000 (by omega)
      · rw [upd_ne (ne_of_none e hD)]
        exact s4 _ _ (sH _ _ e)
      · rw [upd_same, ← tab_snoc]
    · obtain ⟨sH, hL⟩ := hP
      rw [List.length_map, List.length_take, Nat.min_eq_left (by omega), tab_tb] at hL
      exact .inl ⟨D, _, rfl, SqL.of hL, fun p5 n5 => q p5 _ (s2.trans (sH.trans (same_upd0 n5))) upd_same⟩
def spByY : Sp := fun vs H Q _ => ∃ (a : Addr) (m : List Int), vs = [.ref a] ∧ H a = some (tp m) ∧ 1 ≤ m.length ∧ m.length ≤ 100 ∧ (∀ z ∈ m, sm z) ∧ ∀ p H', Same H H' → H' p = some (tp (dY m)) → Q (.ref p) H'
theorem ok_law_by_y (T : Facts K mg) : FnOk P w K mg base CX0 1 T.f_law_by_y T.fd_law_by_y ["_law_form"] spByY := by
  refine T.F_law_by_y.ok sc_law_by_y (fun vs H Q E h => ?_) (fun cdv A outer s H vs Q E hr h => ?_)
  · obtain ⟨a, m, rfl, _⟩ := h
    rfl
  · obtain ⟨a, m, rfl, ha, h1, h2, sm1, q⟩ := h
    refine ⟨_, (PSs.nox (pss_one (ps_ret (pe_tupleOf (by rfl) T.z_tuple (pe_lc (own := [("_law_at", 1), ("_law_entry", 2)]) (g := (gTup K 2 (gCons (gName 1) (gCons (gName 2) gNil)))) (tt := tYes) (by rfl) sc_law_by_y.nd (pi_enumT (by rfl) T.z_enumerate (pa_cons (pe_slice sl_tupA (pv 0) (po_some pe_int) po_none) pa_nil)) (blkOk_by (N := N_law_by_y) (sc := defScope s_law_by_y) (by decide +kernel)) (fun _ _ _ _ _ => (pg_tup (by rfl) (pgs_cons (pg_name (i := 1) sc_law_by_y.nd rfl (.inl rfl)) (pgs_cons (pg_name (i := 2) sc_law_by_y.nd rfl (.inl rfl)) pgs_nil)))) (fun _ _ _ _ _ => pts_nil) (fun _ _ _ _ _ => (pe_op op_mulW (pv 2) (pe_op op_add (pv 1) pe_int)))))))), ?_⟩
    refine ⟨_, rfl, 1, rfl, a, _, rfl, SqT.of ha, fun z => absurd z.1 (by
      rw [List.length_map]
      unfold HT.sIx
      simp only []
      split <;> omega), fun _ p np => ?_⟩
    rw [ecut_tail (by omega)]
    refine gen_upd H p _ np fun H2 s2 f2 => ⟨p, _, rfl, SqT.of f2, fun D hD => lc_enumT (xs := (m.drop 1).map V.int) (fun k H' => Same H2 H' ∧ H' D = some (.lst (tab k fun k => co m (k + 1) * ((k : Int) + 1)))) ⟨same_upd0 hD, upd_same⟩ (fun k H' _ hP => SqT.of (hP.1 _ _ f2)) (fun k x B H' hx hP hB => ?_) (fun H3 hP => ?_)⟩
    · obtain ⟨sH, hL⟩ := hP
      obtain ⟨hk, rfl⟩ := int_get hx
      rw [List.length_drop] at hk
      rw [co_drop1]
      refine gen_upd H' B _ hB fun H4 s4 f4 => ⟨B, _, rfl, SqT.of f4, rfl, _, _, rfl, _, _, rfl, rfl, rfl, ?_⟩
      refine ⟨_, rfl, _, rfl, _, _, rfl, rfl, _, _, rfl, rfl, sm_mul (sm_co sm1 (by omega)) (Nat.lt_of_le_of_lt (show ((k : Int) + 1).natAbs ≤ 100 by omega) (Nat.lt_of_lt_of_le (show 100 < 2 ^ 7 by decide) (Nat.pow_le_pow_right (by decide) (by decide)))), _, s4 _ _ hL, ?_, fun b o e => ?_, ?_⟩
      · rw [tab_len]
        exact small1000 (by omega)
      · rw [upd_ne (ne_of_none e hD)]
        exact s4 _ _ (sH _ _ e)
      · rw [upd_same, ← tab_snoc]
    · obtain ⟨sH, hL⟩ := hP
      rw [List.length_map, List.length_drop, tab_tb] at hL
      exact .inl ⟨D, _, rfl, SqL.of hL, fun p5 n5 => q p5 _ (s2.trans (sH.trans (same_upd0 n5))) upd_same⟩
theorem ok_law_derived (T : Facts K mg) : FnOk P w K mg base CX0 2 T.f_law_derived T.fd_law_derived ["_law_form", "_law_one", "_law_other"] spDerived := by
  have G_law_by_x := ok_law_by_x (P := P) (w := w) (base := base) T
  have G_law_by_y := ok_law_by_y (P := P) (w := w) (base := base) T
  refine T.F_law_derived.ok sc_law_derived (fun vs H Q E h => ?_) (fun cdv A outer s H vs Q E hr h => ?_)
  · obtain ⟨a, l, i, j, rfl, _⟩ := h
    rfl
  · obtain ⟨a, l, i, j, rfl, ha, ok, q⟩ := h
    have hlen := ok.len
    have hle := ok.le
    refine ⟨_, (PSs.nox (pss_cons (ps_for PassesOwn.never (by rfl) (pi_range1 (by rfl) T.z_range (pa_cons (pv 1) pa_nil)) (pg_name (i := 3) sc_law_derived.nd rfl (.inl rfl))
      (pss_one (ps_set (i := 0) sc_law_derived.nd rfl (.inl rfl) (pe_call G_law_by_x hr (by rfl) T.g_law_by_x T.F_law_by_x.kp T.b_law_by_x .nil pass0 (pa_cons (pv 0) pa_nil)))))
    (pss_cons (ps_for PassesOwn.never (by rfl) (pi_range1 (by rfl) T.z_range (pa_cons (pv 2) pa_nil)) (pg_name (i := 3) sc_law_derived.nd rfl (.inl rfl))
      (pss_one (ps_set (i := 0) sc_law_derived.nd rfl (.inl rfl) (pe_call G_law_by_y hr (by rfl) T.g_law_by_y T.F_law_by_y.kp T.b_law_by_y .nil pass0 (pa_cons (pv 0) pa_nil)))))
    (pss_one (ps_ret (pv 0)))))), ?_⟩
    refine ⟨_, rfl, i, rfl, by omega, by omega, for_range (n := (i : Int).toNat) (fun u σ H' => ∃ fa y3, σ = [some (.ref fa), some (.int i), some (.int j), y3] ∧ Same H H' ∧ H' fa = some (tp (it dX u l))) ⟨a, none, rfl, Same.rf H, ha⟩ (fun u σ H1 hu hP => ?_) (fun σ H1 hP => ?_)⟩
    · obtain ⟨fa, y3, rfl, s1, hf⟩ := hP
      have lu := dX_it_len l u
      exact ⟨_, rfl, fa, _, rfl, hf, by omega, by omega, ok.sx u (by omega), fun p H2 s2 hp => ⟨p, _, rfl, s1.trans s2, hp⟩⟩
    · obtain ⟨fa, y3, rfl, s1, hf⟩ := hP
      rw [Int.toNat_natCast] at hf
      have lu0 := dX_it_len l i
      refine ⟨_, rfl, j, rfl, by omega, by omega, for_range (n := (j : Int).toNat) (fun u σ H' => ∃ fa y3, σ = [some (.ref fa), some (.int i), some (.int j), y3] ∧ Same H H' ∧ H' fa = some (tp (it dY u (it dX i l)))) ⟨fa, y3, rfl, s1, hf⟩ (fun u σ H1 hu hP => ?_) (fun σ H1 hP => ?_)⟩
      · obtain ⟨fa, y3, rfl, s1, hf⟩ := hP
        have lu := dY_it_len (it dX i l) u
        exact ⟨_, rfl, fa, _, rfl, hf, by omega, by omega, ok.sy u (by omega), fun p H2 s2 hp => ⟨p, _, rfl, s1.trans s2, hp⟩⟩
      · obtain ⟨fa, y3, rfl, s1, hf⟩ := hP
        rw [Int.toNat_natCast] at hf
        exact ⟨_, rfl, q fa H1 s1 hf⟩
/-- all that the law makes on its way is let -/
structure LchOk (X Y l : List Int) : Prop where
  ne : l ≠ []
  len : l.length ≤ 90
  lX : X.length = 2
  lY : Y.length = 2
  pX : ∀ i, i ≤ l.length → Rw (pow X i)
  pY : ∀ i, i ≤ l.length → Rw (pow Y i)
  pm : ∀ i, i < l.length → Rw (ml (pow X (l.length - 1 - i)) (pow Y i))
  sl : ∀ z ∈ l, sm z
def spLChanged : Sp := fun vs H Q _ => ∃ (a t : Addr) (l X Y : List Int), vs = [.ref a, .ref t] ∧ H a = some (tp l) ∧ Tb H t X Y ∧ LchOk X Y l ∧ ∀ p H', Same H H' → H' p = some (tp (changed X Y l)) → Q (.ref p) H'
theorem tab_repl (n : Nat) : tab n (fun _ => 0) = (List.replicate n (0 : Int)).map V.int := by
  rw [tab_tb]
  congr 1
  refine co_inj (by rw [tb_len, List.length_replicate]) fun k => ?_
  rw [co_tb]
  by_cases h : k < n
  · rw [if_pos h, co_get (by rw [List.length_replicate]; exact h), List.getElem_replicate]
  · rw [if_neg h, co_far (by rw [List.length_replicate]; omega)]
theorem ok_law_changed (T : Facts K mg) : FnOk P w K mg base CX0 3 T.f_law_changed T.fd_law_changed ["_law_form", "_law_table_here"] spLChanged := by
  have G_law_product := ok_law_product (P := P) (w := w) (base := base) T
  have G_law_power := ok_law_power (P := P) (w := w) (base := base) T
  have G_law_plus := ok_law_plus (P := P) (w := w) (base := base) T
  have G_law_scaled := ok_law_scaled (P := P) (w := w) (base := base) T
  refine T.F_law_changed.ok sc_law_changed (fun vs H Q E h => ?_) (fun cdv A outer s H vs Q E hr h => ?_)
  · obtain ⟨a, t, l, X, Y, rfl, _⟩ := h
    rfl
  · obtain ⟨a, t, l, X, Y, rfl, ha, ht, ok, q⟩ := h
    obtain ⟨r0, r1, h1, h2, h3⟩ := ht
    have hlen := ok.len
    have rX : Rw X := by have := ok.pX 1 (List.length_pos_iff.mpr ok.ne); rwa [show pow X 1 = X from by show ml [1] X = X; rw [ml_comm, ml_one]] at this
    have rY : Rw Y := by have := ok.pY 1 (List.length_pos_iff.mpr ok.ne); rwa [show pow Y 1 = Y from by show ml [1] Y = Y; rw [ml_comm, ml_one]] at this
    refine ⟨_, (PSs.nox (pss_cons (ps_set (i := 2) sc_law_changed.nd rfl (.inl rfl) (pe_tupleOf (by rfl) T.z_tuple (pe_lc (own := [("_law_entry", 3)]) (g := (gName 3)) (tt := tYes) (by rfl) sc_law_changed.nd (pi_tup (pv 0)) (blkOk_by (N := N_law_changed) (sc := defScope s_law_changed) (by decide +kernel)) (fun _ _ _ _ _ => (pg_name (i := 3) sc_law_changed.nd rfl (.inl rfl))) (fun _ _ _ _ _ => pts_nil) (fun _ _ _ _ _ => pe_int))))
    (pss_cons (ps_for PassesOwn.never (by rfl) (pi_enumT (by rfl) T.z_enumerate (pa_cons (pv 0) pa_nil)) (pg_tup (by rfl) (pgs_cons (pg_name (i := 4) sc_law_changed.nd rfl (.inl rfl)) (pgs_cons (pg_name (i := 3) sc_law_changed.nd rfl (.inl rfl)) pgs_nil)))
      (pss_cons (ps_set (i := 5) sc_law_changed.nd rfl (.inl rfl) (pe_call G_law_product (hr.mono (by decide)) (by rfl) T.g_law_product T.F_law_product.kp T.b_law_product .nil pass0 (pa_cons (pe_call G_law_power hr (by rfl) T.g_law_power T.F_law_power.kp T.b_law_power .nil pass0 (pa_cons (pe_ix ix_tup (pv 1) pe_int (fun _ _ => rfl)) (pa_cons (pe_op op_sub (pe_op op_sub (pe_callB call_len_seq (by rfl) T.z_len (by decide +kernel) (pa_cons (pv 0) pa_nil)) pe_int) (pv 4)) pa_nil))) (pa_cons (pe_call G_law_power hr (by rfl) T.g_law_power T.F_law_power.kp T.b_law_power .nil pass0 (pa_cons (pe_ix ix_tup (pv 1) pe_int (fun _ _ => rfl)) (pa_cons (pv 4) pa_nil))) pa_nil))))
      (pss_one (ps_set (i := 2) sc_law_changed.nd rfl (.inl rfl) (pe_call G_law_plus (hr.mono (by decide)) (by rfl) T.g_law_plus T.F_law_plus.kp T.b_law_plus .nil pass0 (pa_cons (pv 2) (pa_cons (pe_call G_law_scaled (hr.mono (by decide)) (by rfl) T.g_law_scaled T.F_law_scaled.kp T.b_law_scaled .nil pass0 (pa_cons (pv 5) (pa_cons (pv 3) pa_nil))) pa_nil)))))))
    (pss_one (ps_ret (pv 2)))))), ?_⟩
    refine ⟨_, rfl, a, rfl, ⟨_, SqT.of ha⟩, fun D hD => lc_tup (xs := l.map V.int) (fun j H' => H' = upd H D (.lst (tab j fun _ => 0))) rfl (fun j H' _ hP => by rw [hP]; exact SqT.of (same_upd0 hD _ _ ha)) (fun j x H' hx hP => ?_) (fun H' hP => ?_)⟩
    · subst hP
      obtain ⟨hj, rfl⟩ := int_get hx
      refine ⟨rfl, _, upd_same, by rw [tab_len]; exact small1000 (by omega), ?_⟩
      rw [upd_upd, ← tab_snoc]
    · subst hP
      rw [List.length_map, tab_repl]
      refine .inl ⟨D, _, rfl, SqL.of upd_same, fun p0 n0 => ?_⟩
      have sD := same_upd0 (o := .lst ((List.replicate l.length (0 : Int)).map V.int)) hD
      refine gen_upd _ p0 (tp (List.replicate l.length 0)) n0 fun H1 s1 f1 => ?_
      have s01 := sD.trans s1
      refine ⟨_, rfl, a, _, rfl, SqT.of (s01 _ _ ha), for_enumT (xs := l.map V.int) (fun i σ H' => ∃ fa y3 y4 y5, σ = [some (.ref a), some (.ref t), some (.ref fa), y3, y4, y5] ∧ Same H H' ∧ H' fa = some (tp (chL X Y l i))) ⟨p0, none, none, none, rfl, s01, f1⟩ (fun i σ H' hP => ?_) (fun i x B σ H' hx hP hB => ?_) (fun σ H' hP => ?_)⟩
      · obtain ⟨fa, y3, y4, y5, _, sH, _⟩ := hP
        exact SqT.of (sH _ _ ha)
      · obtain ⟨fa, y3, y4, y5, rfl, sH, hf⟩ := hP
        obtain ⟨hi, rfl⟩ := int_get hx
        refine gen_upd H' B _ hB fun H2 s2 f2 => ⟨B, _, rfl, SqT.of f2, rfl, _, _, rfl, _, _, rfl, rfl, ?_⟩
        have t2 := sH.trans s2
        refine ⟨_, rfl, t, _, 0, _, rfl, rfl, SqT.of (t2 _ _ h1), atI_nat (j := 0) rfl, _, rfl, a, _, rfl, .inr (SqT.of (t2 _ _ ha)), ?_⟩
        rw [List.length_map]
        refine ⟨_, _, rfl, rfl, _, rfl, _, _, rfl, rfl, r0, X, l.length - 1 - i, ?_, t2 _ _ h2, rX.ne, rX.len, rX.sm, fun k hk => ?_, by omega, fun p3 H3 s3 f3 => ?_⟩
        · show [V.ref r0, V.int ((l.length : Int) - 1 - (i : Int))] = [V.ref r0, V.int ((l.length - 1 - i : Nat) : Int)]
          rw [show (l.length : Int) - 1 - (i : Int) = ((l.length - 1 - i : Nat) : Int) by omega]
        · have r := ok.pX k (by omega)
          exact ⟨r.ne, r.len, r.sm⟩
        have t3 := t2.trans s3
        refine ⟨_, rfl, t, _, 1, _, rfl, rfl, SqT.of (t3 _ _ h1), atI_nat (j := 1) rfl, _, rfl, r1, Y, i, rfl, t3 _ _ h3, rY.ne, rY.len, rY.sm, fun k hk => ?_, by omega, fun p4 H4 s4 f4 => ?_⟩
        · have r := ok.pY k (by omega)
          exact ⟨r.ne, r.len, r.sm⟩
        have f3' := s4 _ _ f3
        have qX := ok.pX (l.length - 1 - i) (by omega)
        have qY := ok.pY i (by omega)
        have qm := ok.pm i hi
        refine ⟨p3, p4, _, _, rfl, f3', f4, qX.ne, qY.ne, qX.len, qY.len, qX.sm, qY.sm, fun p5 H5 s5 _ f5 => ?_⟩
        have t5 := (s2.trans s3).trans (s4.trans s5)
        refine ⟨_, rfl, _, rfl, _, rfl, p5, _, _, rfl, f5, qm.len, qm.sm, sm_co ok.sl hi, fun p6 H6 s6 _ f6 => ?_⟩
        have lc := chL_len (l := l) ok.lX ok.lY i (by omega)
        have lm : ((ml (pow X (l.length - 1 - i)) (pow Y i)).map (co l i * ·)).length = l.length := by
          rw [List.length_map, ml_len, pow_len ok.lX, pow_len ok.lY]
          omega
        exact ⟨fa, p6, _, _, rfl, (t5.trans s6) _ _ hf, f6, by rw [lc]; exact lm.symm, by rw [lc]; omega, fun p7 H7 s7 _ f7 => ⟨p7, _, _, _, rfl, sH.trans ((t5.trans s6).trans s7), f7⟩⟩
      · obtain ⟨fa, y3, y4, y5, rfl, sH, hf⟩ := hP
        rw [List.length_map, chL_all ok.lX ok.lY ok.ne] at hf
        exact ⟨_, rfl, q fa H' sH hf⟩
end
end K40

set_option Elab.async false
set_option linter.all false
set_option maxRecDepth 100000
set_option maxHeartbeats 4000000
namespace K40
open PySem PySem.Spec PyProof.Rows L2 StX RZ MyR SlX OwnR OwnF EnumT
section
variable {P : Program} {w : World} {K : PySem.W.Frag} {mg : Str → Option Value} {base : Heap}
theorem sm_le {x : Int} {n : Nat} (h : x.natAbs ≤ n) (hn : n < 2 ^ 60) : sm x := Nat.lt_of_le_of_lt h (Nat.lt_of_lt_of_le hn (Nat.pow_le_pow_right (by decide) (by decide)))
def spTable : Sp := fun vs H Q _ => ∃ (d : Addr) (m : Nat), vs = [.ref d, .int m] ∧ Dc H d ∧ 1 ≤ m ∧ m ≤ 1000 ∧ ∀ p H' a b c e, Sx d H H' → Dc H' d → Tb H' p [a, b] [c, e] → a.natAbs ≤ m → b.natAbs ≤ m → c.natAbs ≤ m → e.natAbs ≤ m → a * e - b * c ≠ 0 → Q (.ref p) H'
theorem ok_law_table (T : Facts K mg) : FnOk P w K mg base CX0 3 T.f_law_table T.fd_law_table ["_law_dice_here", "_law_most"] spTable := by
  have G_law_near : FnOk P w K mg base CX0 2 T.f_law_near T.fd_law_near ["_law_dice_here", "_law_most"] spNear := ok_law_near T
  refine T.F_law_table.ok sc_law_table (fun vs H Q E h => ?_) (fun cdv A outer s H vs Q E hr h => ?_)
  · obtain ⟨d, m, rfl, _⟩ := h
    rfl
  · obtain ⟨d, m, rfl, hd, h1, h2, q⟩ := h
    have e15 : (10 : Int) ^ 15 = 1000000000000000 := by decide
    have z2 : 2 ≤ sizeLine := by decide
    refine ⟨_, (PSs.nox (pss_cons (ps_set (i := 2) sc_law_table.nd rfl (.inl rfl) (pe_tupleOf (by rfl) T.z_tuple (pe_lc (own := [("_law_row", 3)]) (g := (gName 3)) (tt := tYes) (by rfl) sc_law_table.nd (pi_range1 (by rfl) T.z_range (pa_cons pe_int pa_nil)) (blkOk_by (N := N_law_table) (sc := defScope s_law_table) (by decide +kernel)) (fun _ _ _ _ _ => (pg_name (i := 3) sc_law_table.nd rfl (.inl rfl))) (fun _ _ _ _ _ => pts_nil) (fun _ _ _ _ _ => (pe_tup (pa_cons (pe_call G_law_near hr (by rfl) T.g_law_near T.F_law_near.kp T.b_law_near .nil pass0 (pa_cons (pv 0) (pa_cons (pv 1) pa_nil))) (pa_cons (pe_call G_law_near hr (by rfl) T.g_law_near T.F_law_near.kp T.b_law_near .nil pass0 (pa_cons (pv 0) (pa_cons (pv 1) pa_nil))) pa_nil)))))))
    (pss_one (ps_ret (pe_ifExp (pt_cmpR op_ne (pe_op op_mulW (pe_ix ix_tup (pe_ix ix_tup (pv 2) pe_int (fun _ _ => rfl)) pe_int (fun _ _ => rfl)) (pe_ix ix_tup (pe_ix ix_tup (pv 2) pe_int (fun _ _ => rfl)) pe_int (fun _ _ => rfl))) (pe_op op_mulW (pe_ix ix_tup (pe_ix ix_tup (pv 2) pe_int (fun _ _ => rfl)) pe_int (fun _ _ => rfl)) (pe_ix ix_tup (pe_ix ix_tup (pv 2) pe_int (fun _ _ => rfl)) pe_int (fun _ _ => rfl))) (nomark _)) (pv 2) (pe_tup (pa_cons (pe_tup (pa_cons pe_int (pa_cons pe_int pa_nil))) (pa_cons (pe_tup (pa_cons pe_int (pa_cons pe_int pa_nil))) pa_nil)))))))), ?_⟩
    refine ⟨2, rfl, by decide, by decide, fun D hD => lc_range (n := (2 : Int).toNat) (fun j H' => Sx d H H' ∧ Dc H' d ∧ ∃ (rs : List Addr) (ls : List (List Int)), H' D = some (.lst (rs.map V.ref)) ∧ rs.length = j ∧ ls.length = j ∧ (∀ i (h : i < ls.length) (h' : i < rs.length), H' rs[i] = some (tp ls[i])) ∧ ∀ l ∈ ls, l.length = 2 ∧ ∀ x ∈ l, x.natAbs ≤ m) ⟨Sx.of (same_upd0 hD), hd.same (same_upd0 hD), [], [], upd_same, rfl, rfl, fun i h _ => absurd h (Nat.not_lt_zero i), fun l h => (nomatch h)⟩ (fun j H' hj hP => ?_) (fun H' hP => ?_)⟩
    · obtain ⟨sH, dH, rs, ls, hL, hl1, hl2, hr, hb⟩ := hP
      have nD : D ≠ d := hd.ne hD
      refine ⟨rfl, _, rfl, _, rfl, d, m, rfl, dH, by omega, by rw [e15]; omega, fun u H2 u1 u2 s2 d2 => ⟨_, rfl, _, rfl, d, m, rfl, d2, by omega, by rw [e15]; omega, fun v H3 v1 v2 s3 d3 => ⟨z2, fun p2 n2 => gen_upd H3 p2 (tp [u, v]) n2 fun H4 s4 f4 => ?_⟩⟩⟩
      have hL4 := s4 _ _ (s3 D _ nD (s2 D _ nD hL))
      have dD : ∀ a l, H4 a = some (tp l) → a ≠ D := fun a l e z => by
        rw [z, hL4] at e
        cases e
      have d4 := d3.same s4
      have hj2 : j < 2 := hj
      refine ⟨_, hL4, by rw [List.length_map, hl1]; exact small1000 (by omega), fun b o hb2 e => ?_, ?_, rs ++ [p2], ls ++ [[u, v]], by rw [upd_same, List.map_append]; rfl, by rw [List.length_append, hl1]; rfl, by rw [List.length_append, hl2]; rfl, fun i h h' => ?_, fun l hl => ?_⟩
      · rw [upd_ne (ne_of_none e hD)]
        exact s4 _ _ (s3 b o hb2 (s2 b o hb2 (sH b o hb2 e)))
      · obtain ⟨x, y, z, e⟩ := d4
        exact ⟨x, y, z, by rw [upd_ne (Ne.symm nD)]; exact e⟩
      · by_cases c : i < ls.length
        · have e1 : (rs ++ [p2])[i] = rs[i]'(by omega) := List.getElem_append_left _
          have e2 : (ls ++ [[u, v]])[i] = ls[i] := List.getElem_append_left _
          rw [e1, e2]
          have e3 := s3 _ _ (dc_ne d2 (s2 _ _ (dc_ne dH (hr i c (by omega))) (hr i c (by omega)))) (s2 _ _ (dc_ne dH (hr i c (by omega))) (hr i c (by omega)))
          rw [upd_ne (dD _ _ (s4 _ _ e3))]
          exact s4 _ _ e3
        · have ei : i = ls.length := by rw [List.length_append] at h; simp at h; omega
          subst ei
          have e1 : (rs ++ [p2])[ls.length] = p2 := by rw [List.getElem_append_right (by omega)]; simp [hl1, hl2]
          have e2 : (ls ++ [[u, v]])[ls.length] = [u, v] := by rw [List.getElem_append_right (by omega)]; simp
          rw [e1, e2, upd_ne (dD _ _ f4)]
          exact f4
      · rcases List.mem_append.mp hl with e | e
        · exact hb l e
        · rw [List.mem_singleton.mp e]
          refine ⟨rfl, fun x hx => ?_⟩
          simp only [List.mem_cons, List.not_mem_nil, or_false] at hx
          rcases hx with e | e <;> rw [e] <;> omega
    · obtain ⟨sH, dH, rs, ls, hL, hl1, hl2, hr, hb⟩ := hP
      match rs, hl1, ls, hl2, hL, hr, hb with
      | [r0, r1], _, [l0, l1], _, hL, hr, hb =>
        have k0 : H' r0 = some (tp l0) := hr 0 (by simp) (by simp)
        have k1 : H' r1 = some (tp l1) := hr 1 (by simp) (by simp)
        obtain ⟨b0, c0⟩ := hb l0 (by simp)
        obtain ⟨b1, c1⟩ := hb l1 (by simp)
        match l0, b0, l1, b1, k0, k1, c0, c1 with
        | [a, b], _, [c, e], _, k0, k1, c0, c1 =>
          have ba := c0 a (by simp)
          have bb := c0 b (by simp)
          have bc := c1 c (by simp)
          have be := c1 e (by simp)
          refine .inl ⟨D, _, rfl, SqL.of hL, fun p np => ?_⟩
          refine gen_upd H' p (.tup [.ref r0, .ref r1]) np fun H2 s2 f2 => ?_
          have k0' := s2 _ _ k0
          have k1' := s2 _ _ k1
          have sa := sm_le (n := 1000) (show a.natAbs ≤ 1000 by omega) (by decide)
          have sb := sm_le (n := 1000) (show b.natAbs ≤ 1000 by omega) (by decide)
          have sc := sm_le (n := 1000) (show c.natAbs ≤ 1000 by omega) (by decide)
          have se := sm_le (n := 1000) (show e.natAbs ≤ 1000 by omega) (by decide)
          refine ⟨_, rfl, p, _, 0, _, rfl, rfl, SqT.of f2, atI_nat (j := 0) rfl, r0, _, 0, _, rfl, rfl, SqT.of k0', atI_nat (j := 0) rfl, _, rfl, p, _, 1, _, rfl, rfl, SqT.of f2, atI_nat (j := 1) rfl, r1, _, 1, _, rfl, rfl, SqT.of k1', atI_nat (j := 1) rfl, _, _, rfl, rfl, sm_mul sa se, ?_⟩
          refine ⟨_, rfl, p, _, 0, _, rfl, rfl, SqT.of f2, atI_nat (j := 0) rfl, r0, _, 1, _, rfl, rfl, SqT.of k0', atI_nat (j := 1) rfl, _, rfl, p, _, 1, _, rfl, rfl, SqT.of f2, atI_nat (j := 1) rfl, r1, _, 0, _, rfl, rfl, SqT.of k1', atI_nat (j := 0) rfl, _, _, rfl, rfl, sm_mul sb sc, rfl, _, rfl, ?_⟩
          by_cases z : a * e = b * c
          · rw [decide_eq_true (show V.int (a * e) = V.int (b * c) by rw [z])]
            refine iteF ⟨z2, fun q0 m0 => gen_upd H2 q0 (tp [1, 1]) m0 fun H3 s3 f3 => ⟨z2, fun q1 m1 => gen_upd H3 q1 (tp [0, 1]) m1 fun H4 s4 f4 => ⟨z2, fun q2 m2 => gen_upd H4 q2 (.tup [.ref q0, .ref q1]) m2 fun H5 s5 f5 => ?_⟩⟩⟩
            have s25 := (s3.trans s4).trans s5
            exact q q2 H5 1 1 0 1 (sH.trans (Sx.of (s2.trans s25))) (dH.same (s2.trans s25)) ⟨q0, q1, f5, s5 _ _ (s4 _ _ f3), s5 _ _ f4⟩ (by show 1 ≤ m; omega) (by show 1 ≤ m; omega) (by show 0 ≤ m; omega) (by show 1 ≤ m; omega) (by decide)
          · rw [decide_eq_false fun y => z (V.int.inj y)]
            refine iteT ⟨_, rfl, q p H2 a b c e (sH.trans (Sx.of s2)) (dH.same s2) ⟨r0, r1, f2, k0', k1'⟩ ba bb bc be (by omega)⟩
def spDet : Sp := fun vs H Q _ => ∃ (t : Addr) (a b c e : Int), vs = [.ref t] ∧ Tb H t [a, b] [c, e] ∧ a.natAbs ≤ 1000000 ∧ b.natAbs ≤ 1000000 ∧ c.natAbs ≤ 1000000 ∧ e.natAbs ≤ 1000000 ∧ Q (.int (a * e - b * c)) H
theorem ok_law_det (T : Facts K mg) : FnOk P w K mg base CX0 1 T.f_law_det T.fd_law_det ["_law_table_here"] spDet := by
  refine T.F_law_det.ok sc_law_det (fun vs H Q E h => ?_) (fun cdv A outer s H vs Q E hr h => ?_)
  · obtain ⟨t, a, b, c, e, rfl, _⟩ := h
    rfl
  · obtain ⟨t, a, b, c, e, rfl, ⟨r0, r1, f2, k0, k1⟩, ba, bb, bc, be, q⟩ := h
    refine ⟨_, (PSs.nox (pss_one (ps_ret (pe_op op_sub (pe_op op_mulW (pe_ix ix_tup (pe_ix ix_tup (pv 0) pe_int (fun _ _ => rfl)) pe_int (fun _ _ => rfl)) (pe_ix ix_tup (pe_ix ix_tup (pv 0) pe_int (fun _ _ => rfl)) pe_int (fun _ _ => rfl))) (pe_op op_mulW (pe_ix ix_tup (pe_ix ix_tup (pv 0) pe_int (fun _ _ => rfl)) pe_int (fun _ _ => rfl)) (pe_ix ix_tup (pe_ix ix_tup (pv 0) pe_int (fun _ _ => rfl)) pe_int (fun _ _ => rfl))))))), ?_⟩
    refine ⟨_, rfl, t, _, 0, _, rfl, rfl, SqT.of f2, atI_nat (j := 0) rfl, r0, _, 0, _, rfl, rfl, SqT.of k0, atI_nat (j := 0) rfl, _, rfl, t, _, 1, _, rfl, rfl, SqT.of f2, atI_nat (j := 1) rfl, r1, _, 1, _, rfl, rfl, SqT.of k1, atI_nat (j := 1) rfl, _, _, rfl, rfl, sm_mul (sm_le ba (by decide)) (sm_le be (by decide)), ?_⟩
    exact ⟨_, rfl, t, _, 0, _, rfl, rfl, SqT.of f2, atI_nat (j := 0) rfl, r0, _, 1, _, rfl, rfl, SqT.of k0, atI_nat (j := 1) rfl, _, rfl, t, _, 1, _, rfl, rfl, SqT.of f2, atI_nat (j := 1) rfl, r1, _, 0, _, rfl, rfl, SqT.of k1, atI_nat (j := 0) rfl, _, _, rfl, rfl, sm_mul (sm_le bb (by decide)) (sm_le bc (by decide)), _, _, rfl, rfl, q⟩
end
end K40

set_option Elab.async false
set_option linter.all false
set_option maxRecDepth 100000
/-! layings: the plain law -/
namespace K40
theorem evF_cons (g : Nat → Int) (x y : Int) : ∀ m, evF (m + 1) g x y = g 0 * x ^ m + y * evF m (fun k => g (k + 1)) x y
  | 0 => by
    show x * 0 + g 0 * y ^ 0 = g 0 * x ^ 0 + y * 0
    rw [Int.pow_zero, Int.pow_zero]
    grind
  | m + 1 => by
    show x * evF (m + 1) g x y + g (m + 1) * y ^ (m + 1) = g 0 * x ^ (m + 1) + y * (x * evF m (fun k => g (k + 1)) x y + g (m + 1) * y ^ m)
    rw [evF_cons g x y m, Int.pow_succ, Int.pow_succ]
    generalize evF m (fun k => g (k + 1)) x y = w
    generalize x ^ m = A
    generalize y ^ m = B
    grind
theorem ev_tb (n : Nat) (f : Nat → Int) (x y : Int) : ev (tb n f) x y = evF n f x y := by
  unfold ev
  rw [tb_len]
  exact evF_congr _ fun i hi => by rw [co_tb, if_pos hi]
theorem ev_dX (l : List Int) (x y : Int) : ev (dX l) x y = evF (l.length - 1) (fun k => co l k * ((l.length : Int) - 1 - k)) x y := ev_tb _ _ x y
theorem ev_dY (l : List Int) (x y : Int) : ev (dY l) x y = evF (l.length - 1) (fun k => co l (k + 1) * ((k : Int) + 1)) x y := ev_tb _ _ x y
theorem ev_dX_cons (a : Int) (l : List Int) (x y : Int) : ev (dX (a :: l)) x y = a * l.length * x ^ (l.length - 1) + y * ev (dX l) x y := by
  rw [ev_dX, ev_dX]
  show evF (l.length + 1 - 1) _ x y = _
  rw [Nat.add_sub_cancel]
  cases hl : l.length with
  | zero =>
    show (0 : Int) = a * 0 * _ + y * 0
    grind
  | succ m =>
    rw [evF_cons]
    rw [show evF m (fun k => co (a :: l) (k + 1) * (((a :: l).length : Int) - 1 - ((k + 1 : Nat) : Int))) x y = evF (m + 1 - 1) (fun k => co l k * (((m + 1 : Nat) : Int) - 1 - k)) x y from by
      rw [Nat.add_sub_cancel]
      refine evF_congr _ fun k _ => ?_
      show co l k * (((a :: l).length : Int) - 1 - ((k + 1 : Nat) : Int)) = _
      congr 1
      rw [List.length_cons, hl]
      omega]
    show a * (((a :: l).length : Int) - 1 - ((0 : Nat) : Int)) * x ^ m + _ = _
    rw [List.length_cons, hl, Nat.add_sub_cancel, show (((m + 1 + 1 : Nat)) : Int) - 1 - ((0 : Nat) : Int) = ((m + 1 : Nat) : Int) by omega]
theorem ev_dY_cons (a : Int) (l : List Int) (x y : Int) : ev (dY (a :: l)) x y = ev l x y + y * ev (dY l) x y := by
  rw [ev_dY, ev_dY]
  show evF (l.length + 1 - 1) (fun k => co l k * ((k : Int) + 1)) x y = _
  rw [Nat.add_sub_cancel]
  have e1 : evF l.length (fun k => co l k * ((k : Int) + 1)) x y = ev l x y + evF l.length (fun k => co l k * (k : Int)) x y := by
    unfold ev
    rw [← evF_add]
    exact evF_congr _ fun k _ => by grind
  rw [e1]
  congr 1
  cases hl : l.length with
  | zero =>
    show (0 : Int) = y * 0
    rw [Int.mul_zero]
  | succ m =>
    rw [evF_cons, Nat.add_sub_cancel]
    show co l 0 * ((0 : Nat) : Int) * x ^ m + y * evF m (fun k => co l (k + 1) * ((k + 1 : Nat) : Int)) x y = _
    rw [show evF m (fun k => co l (k + 1) * ((k + 1 : Nat) : Int)) x y = evF m (fun k => co l (k + 1) * ((k : Int) + 1)) x y from evF_congr _ fun k _ => by rw [show ((k + 1 : Nat) : Int) = (k : Int) + 1 by omega]]
    show co l 0 * 0 * x ^ m + _ = _
    grind
/-- a step along a line: up to squares it is told by the derivatives -/
theorem pow_step (x u h : Int) : ∀ n : Nat, ∃ R, (x + u * h) ^ n = x ^ n + h * (u * (n * x ^ (n - 1))) + h * h * R
  | 0 => ⟨0, by rw [Int.pow_zero, Int.pow_zero]; show (1 : Int) = 1 + h * (u * (0 * _)) + h * h * 0; grind⟩
  | 1 => ⟨0, by
    rw [Int.pow_succ, Int.pow_zero, Int.pow_succ, Int.pow_zero]
    show 1 * (x + u * h) = 1 * x + h * (u * (1 * 1)) + h * h * 0
    grind⟩
  | n + 2 => by
    obtain ⟨R, e⟩ := pow_step x u h (n + 1)
    refine ⟨u * u * ((n + 1 : Nat) * x ^ n) + R * (x + u * h), ?_⟩
    rw [Int.pow_succ, e, show n + 1 - 1 = n by omega, show n + 2 - 1 = n + 1 by omega, Int.pow_succ x (n + 1), Int.pow_succ x n, show ((n + 2 : Nat) : Int) = ((n + 1 : Nat) : Int) + 1 by omega]
    generalize x ^ n = A
    generalize ((n + 1 : Nat) : Int) = N
    grind
theorem ev_step (x y u v h : Int) : ∀ l : List Int, ∃ R, ev l (x + u * h) (y + v * h) = ev l x y + h * (u * ev (dX l) x y + v * ev (dY l) x y) + h * h * R
  | [] => ⟨0, by
    show (0 : Int) = 0 + h * (u * ev (dX []) x y + v * ev (dY []) x y) + h * h * 0
    rw [show ev (dX []) x y = 0 from rfl, show ev (dY []) x y = 0 from rfl]
    grind⟩
  | a :: l => by
    obtain ⟨R, e⟩ := ev_step x y u v h l
    obtain ⟨S, e2⟩ := pow_step x u h l.length
    refine ⟨a * S + v * (u * ev (dX l) x y + v * ev (dY l) x y) + (y + v * h) * R, ?_⟩
    rw [ev_cons, ev_cons, ev_dX_cons, ev_dY_cons, e, e2]
    generalize ev (dX l) x y = EX
    generalize ev (dY l) x y = EY
    generalize ev l x y = E
    generalize x ^ (l.length - 1) = A
    generalize x ^ l.length = B
    generalize (l.length : Int) = n
    grind
theorem step_eq {p q : Int} (H : ∀ h : Int, ∃ R, h * p = h * q + h * h * R) : p = q := by
  obtain ⟨R, e⟩ := H (((p - q).natAbs + 1 : Nat) : Int)
  have hp : (((p - q).natAbs + 1 : Nat) : Int) ≠ 0 := by omega
  have e2 : p = q + (((p - q).natAbs + 1 : Nat) : Int) * R := by
    refine Int.eq_of_mul_eq_mul_left hp ?_
    rw [Int.mul_add, ← Int.mul_assoc]
    exact e
  have hd : (((p - q).natAbs + 1 : Nat) : Int) ∣ p - q := ⟨R, by omega⟩
  have hz := Nat.eq_zero_of_dvd_of_lt (Int.natAbs_dvd_natAbs.mpr hd) (by rw [Int.natAbs_natCast]; omega)
  omega
theorem map_len (c : Int) (l : List Int) : (l.map (c * ·)).length = l.length := List.length_map ..
theorem dX_ne {l : List Int} (h : 2 ≤ l.length) : dX l ≠ [] := fun z => by have := dX_len l; rw [z] at this; have : 0 = l.length - 1 := this; omega
theorem dY_ne {l : List Int} (h : 2 ≤ l.length) : dY l ≠ [] := fun z => by have := dY_len l; rw [z] at this; have : 0 = l.length - 1 := this; omega
theorem ne_of2 {l : List Int} (h : 1 ≤ l.length) : l ≠ [] := List.length_pos_iff.mp h
/-- the rule of the chain -/
theorem dX_changed {a b c e : Int} {l : List Int} (h : 2 ≤ l.length) : dX (changed [a, b] [c, e] l) = zs 1 ((changed [a, b] [c, e] (dX l)).map (a * ·)) ((changed [a, b] [c, e] (dY l)).map (c * ·)) := by
  have nl := ne_of2 (show 1 ≤ l.length by omega)
  have l0 := changed_len (X := [a, b]) (Y := [c, e]) rfl rfl nl
  have l1 := changed_len (X := [a, b]) (Y := [c, e]) rfl rfl (dX_ne h)
  have l2 := changed_len (X := [a, b]) (Y := [c, e]) rfl rfl (dY_ne h)
  rw [dX_len] at l1
  rw [dY_len] at l2
  refine ev_inj (by rw [dX_len, l0, zs_len (by rw [map_len, map_len, l1, l2]), map_len, l1]) fun x y => step_eq fun k => ?_
  obtain ⟨R, e1⟩ := ev_step x y 1 0 k (changed [a, b] [c, e] l)
  obtain ⟨S, e2⟩ := ev_step (a * x + b * y) (c * x + e * y) a c k l
  rw [ev_changed rfl rfl nl, ev_changed rfl rfl nl, ev2, ev2, ev2, ev2] at e1
  rw [show a * (x + 1 * k) + b * (y + 0 * k) = a * x + b * y + a * k by grind, show c * (x + 1 * k) + e * (y + 0 * k) = c * x + e * y + c * k by grind, e2] at e1
  refine ⟨S - R, ?_⟩
  rw [ev_zs 1 (by rw [map_len, map_len, l1, l2]), ev_map, ev_map, ev_changed rfl rfl (dX_ne h), ev_changed rfl rfl (dY_ne h), ev2, ev2]
  grind
theorem dY_changed {a b c e : Int} {l : List Int} (h : 2 ≤ l.length) : dY (changed [a, b] [c, e] l) = zs 1 ((changed [a, b] [c, e] (dX l)).map (b * ·)) ((changed [a, b] [c, e] (dY l)).map (e * ·)) := by
  have nl := ne_of2 (show 1 ≤ l.length by omega)
  have l0 := changed_len (X := [a, b]) (Y := [c, e]) rfl rfl nl
  have l1 := changed_len (X := [a, b]) (Y := [c, e]) rfl rfl (dX_ne h)
  have l2 := changed_len (X := [a, b]) (Y := [c, e]) rfl rfl (dY_ne h)
  rw [dX_len] at l1
  rw [dY_len] at l2
  refine ev_inj (by rw [dY_len, l0, zs_len (by rw [map_len, map_len, l1, l2]), map_len, l1]) fun x y => step_eq fun k => ?_
  obtain ⟨R, e1⟩ := ev_step x y 0 1 k (changed [a, b] [c, e] l)
  obtain ⟨S, e2⟩ := ev_step (a * x + b * y) (c * x + e * y) b e k l
  rw [ev_changed rfl rfl nl, ev_changed rfl rfl nl, ev2, ev2, ev2, ev2] at e1
  rw [show a * (x + 0 * k) + b * (y + 1 * k) = a * x + b * y + b * k by grind, show c * (x + 0 * k) + e * (y + 1 * k) = c * x + e * y + e * k by grind, e2] at e1
  refine ⟨S - R, ?_⟩
  rw [ev_zs 1 (by rw [map_len, map_len, l1, l2]), ev_map, ev_map, ev_changed rfl rfl (dX_ne h), ev_changed rfl rfl (dY_ne h), ev2, ev2]
  grind
/-! ### the laying -/
def L : Nat → List Int → List Int → List Int
  | 0, f, g => ml f g
  | t + 1, f, g => zs (-1) (L t (dX f) (dY g)) (L t (dY f) (dX g))
theorem L_len : ∀ (t : Nat) (f g : List Int), t + 1 ≤ f.length → t + 1 ≤ g.length → (L t f g).length = f.length + g.length - 1 - 2 * t
  | 0, f, g, _, _ => ml_len f g
  | t + 1, f, g, hf, hg => by
    have h1 := L_len t (dX f) (dY g) (by rw [dX_len]; omega) (by rw [dY_len]; omega)
    have h2 := L_len t (dY f) (dX g) (by rw [dY_len]; omega) (by rw [dX_len]; omega)
    rw [dX_len, dY_len] at h1
    rw [dX_len, dY_len] at h2
    show (zs (-1) (L t (dX f) (dY g)) (L t (dY f) (dX g))).length = _
    rw [zs_len (by rw [h1, h2]), h1]
    omega
theorem ev_L_succ {t : Nat} {f g : List Int} (hf : t + 2 ≤ f.length) (hg : t + 2 ≤ g.length) (x y : Int) : ev (L (t + 1) f g) x y = ev (L t (dX f) (dY g)) x y - ev (L t (dY f) (dX g)) x y := by
  have h1 := L_len t (dX f) (dY g) (by rw [dX_len]; omega) (by rw [dY_len]; omega)
  have h2 := L_len t (dY f) (dX g) (by rw [dY_len]; omega) (by rw [dX_len]; omega)
  rw [dX_len, dY_len] at h1
  rw [dX_len, dY_len] at h2
  show ev (zs (-1) (L t (dX f) (dY g)) (L t (dY f) (dX g))) x y = _
  rw [ev_zs (-1) (by rw [h1, h2])]
  omega
theorem dX_zs' (c : Int) {l m : List Int} (h : l.length = m.length) : dX (zs c l m) = zs c (dX l) (dX m) := by
  refine co_inj (by rw [dX_len, zs_len h, zs_len (by rw [dX_len, dX_len, h]), dX_len]) fun k => ?_
  rw [co_zs' c (by rw [dX_len, dX_len, h])]
  unfold dX
  rw [co_tb, co_tb, co_tb, zs_len h, ← h, co_zs' c h]
  by_cases d : k < l.length - 1
  · rw [if_pos d, if_pos d, if_pos d]
    grind
  · rw [if_neg d, if_neg d, if_neg d]
    grind
theorem dY_zs' (c : Int) {l m : List Int} (h : l.length = m.length) : dY (zs c l m) = zs c (dY l) (dY m) := by
  refine co_inj (by rw [dY_len, zs_len h, zs_len (by rw [dY_len, dY_len, h]), dY_len]) fun k => ?_
  rw [co_zs' c (by rw [dY_len, dY_len, h])]
  unfold dY
  rw [co_tb, co_tb, co_tb, zs_len h, ← h, co_zs' c h]
  by_cases d : k < l.length - 1
  · rw [if_pos d, if_pos d, if_pos d]
    grind
  · rw [if_neg d, if_neg d, if_neg d]
    grind
/-- a laying is a sum in both -/
theorem L_zsl (c : Int) (x y : Int) : ∀ (t : Nat) (f f' g : List Int), f.length = f'.length → t + 1 ≤ f.length → t + 1 ≤ g.length → ev (L t (zs c f f') g) x y = ev (L t f g) x y + c * ev (L t f' g) x y
  | 0, f, f', g, h, hf, hg => by
    have n1 : zs c f f' ≠ [] := ne_of2 (by rw [zs_len h]; omega)
    show ev (ml (zs c f f') g) x y = ev (ml f g) x y + c * ev (ml f' g) x y
    rw [ev_ml n1 (ne_of2 hg), ev_ml (ne_of2 hf) (ne_of2 hg), ev_ml (ne_of2 (by omega)) (ne_of2 hg), ev_zs c h]
    grind
  | t + 1, f, f', g, h, hf, hg => by
    rw [ev_L_succ (by rw [zs_len h]; omega) (by omega), ev_L_succ (by omega) (by omega), ev_L_succ (by omega) (by omega), dX_zs' c h, dY_zs' c h,
      L_zsl c x y t _ _ _ (by rw [dX_len, dX_len, h]) (by rw [dX_len]; omega) (by rw [dY_len]; omega), L_zsl c x y t _ _ _ (by rw [dY_len, dY_len, h]) (by rw [dY_len]; omega) (by rw [dX_len]; omega)]
    grind
theorem L_zsr (c : Int) (x y : Int) : ∀ (t : Nat) (f g g' : List Int), g.length = g'.length → t + 1 ≤ f.length → t + 1 ≤ g.length → ev (L t f (zs c g g')) x y = ev (L t f g) x y + c * ev (L t f g') x y
  | 0, f, g, g', h, hf, hg => by
    have n1 : zs c g g' ≠ [] := ne_of2 (by rw [zs_len h]; omega)
    show ev (ml f (zs c g g')) x y = ev (ml f g) x y + c * ev (ml f g') x y
    rw [ev_ml (ne_of2 hf) n1, ev_ml (ne_of2 hf) (ne_of2 hg), ev_ml (ne_of2 hf) (ne_of2 (by omega)), ev_zs c h]
    grind
  | t + 1, f, g, g', h, hf, hg => by
    rw [ev_L_succ (by omega) (by rw [zs_len h]; omega), ev_L_succ (by omega) (by omega), ev_L_succ (by omega) (by omega), dX_zs' c h, dY_zs' c h,
      L_zsr c x y t _ _ _ (by rw [dY_len, dY_len, h]) (by rw [dX_len]; omega) (by rw [dY_len]; omega), L_zsr c x y t _ _ _ (by rw [dX_len, dX_len, h]) (by rw [dY_len]; omega) (by rw [dX_len]; omega)]
    grind
theorem dX_map (c : Int) (l : List Int) : dX (l.map (c * ·)) = (dX l).map (c * ·) := by
  refine co_inj (by rw [dX_len, map_len, map_len, dX_len]) fun k => ?_
  rw [co_map]
  unfold dX
  rw [co_tb, co_tb, map_len, co_map]
  by_cases d : k < l.length - 1
  · rw [if_pos d, if_pos d]
    grind
  · rw [if_neg d, if_neg d]
    grind
theorem dY_map (c : Int) (l : List Int) : dY (l.map (c * ·)) = (dY l).map (c * ·) := by
  refine co_inj (by rw [dY_len, map_len, map_len, dY_len]) fun k => ?_
  rw [co_map]
  unfold dY
  rw [co_tb, co_tb, map_len, co_map]
  by_cases d : k < l.length - 1
  · rw [if_pos d, if_pos d]
    grind
  · rw [if_neg d, if_neg d]
    grind
theorem L_mapl (c : Int) (x y : Int) : ∀ (t : Nat) (f g : List Int), t + 1 ≤ f.length → t + 1 ≤ g.length → ev (L t (f.map (c * ·)) g) x y = c * ev (L t f g) x y
  | 0, f, g, hf, hg => by
    show ev (ml (f.map (c * ·)) g) x y = c * ev (ml f g) x y
    rw [ev_ml (ne_of2 (by rw [map_len]; omega)) (ne_of2 hg), ev_ml (ne_of2 hf) (ne_of2 hg), ev_map]
    grind
  | t + 1, f, g, hf, hg => by
    rw [ev_L_succ (by rw [map_len]; omega) (by omega), ev_L_succ (by omega) (by omega), dX_map, dY_map, L_mapl c x y t _ _ (by rw [dX_len]; omega) (by rw [dY_len]; omega), L_mapl c x y t _ _ (by rw [dY_len]; omega) (by rw [dX_len]; omega)]
    grind
theorem L_mapr (c : Int) (x y : Int) : ∀ (t : Nat) (f g : List Int), t + 1 ≤ f.length → t + 1 ≤ g.length → ev (L t f (g.map (c * ·))) x y = c * ev (L t f g) x y
  | 0, f, g, hf, hg => by
    show ev (ml f (g.map (c * ·))) x y = c * ev (ml f g) x y
    rw [ev_ml (ne_of2 hf) (ne_of2 (by rw [map_len]; omega)), ev_ml (ne_of2 hf) (ne_of2 hg), ev_map]
    grind
  | t + 1, f, g, hf, hg => by
    rw [ev_L_succ (by omega) (by rw [map_len]; omega), ev_L_succ (by omega) (by omega), dX_map, dY_map, L_mapr c x y t _ _ (by rw [dX_len]; omega) (by rw [dY_len]; omega), L_mapr c x y t _ _ (by rw [dY_len]; omega) (by rw [dX_len]; omega)]
    grind
/-- laid after a change -/
theorem L_changed {a b c e : Int} (x y : Int) : ∀ (t : Nat) (f g : List Int), t + 1 ≤ f.length → t + 1 ≤ g.length →
    ev (L t (changed [a, b] [c, e] f) (changed [a, b] [c, e] g)) x y = (a * e - b * c) ^ t * ev (L t f g) (a * x + b * y) (c * x + e * y)
  | 0, f, g, hf, hg => by
    have l1 := changed_len (X := [a, b]) (Y := [c, e]) rfl rfl (ne_of2 hf)
    have l2 := changed_len (X := [a, b]) (Y := [c, e]) rfl rfl (ne_of2 hg)
    rw [Int.pow_zero, Int.one_mul]
    show ev (ml (changed [a, b] [c, e] f) (changed [a, b] [c, e] g)) x y = ev (ml f g) _ _
    rw [ev_ml (ne_of2 (by omega)) (ne_of2 (by omega)), ev_ml (ne_of2 hf) (ne_of2 hg), ev_changed rfl rfl (ne_of2 hf), ev_changed rfl rfl (ne_of2 hg), ev2, ev2]
  | t + 1, f, g, hf, hg => by
    have l1 := changed_len (X := [a, b]) (Y := [c, e]) rfl rfl (ne_of2 (show 1 ≤ f.length by omega))
    have l2 := changed_len (X := [a, b]) (Y := [c, e]) rfl rfl (ne_of2 (show 1 ≤ g.length by omega))
    have lfx := changed_len (X := [a, b]) (Y := [c, e]) rfl rfl (dX_ne (l := f) (by omega))
    have lfy := changed_len (X := [a, b]) (Y := [c, e]) rfl rfl (dY_ne (l := f) (by omega))
    have lgx := changed_len (X := [a, b]) (Y := [c, e]) rfl rfl (dX_ne (l := g) (by omega))
    have lgy := changed_len (X := [a, b]) (Y := [c, e]) rfl rfl (dY_ne (l := g) (by omega))
    rw [dX_len] at lfx lgx
    rw [dY_len] at lfy lgy
    rw [ev_L_succ (by omega) (by omega), ev_L_succ (by omega) (by omega), dX_changed (l := f) (by omega), dY_changed (l := f) (by omega), dX_changed (l := g) (by omega), dY_changed (l := g) (by omega)]
    have two : ∀ (p q r s : Int), ev (L t (zs 1 ((changed [a, b] [c, e] (dX f)).map (p * ·)) ((changed [a, b] [c, e] (dY f)).map (q * ·))) (zs 1 ((changed [a, b] [c, e] (dX g)).map (r * ·)) ((changed [a, b] [c, e] (dY g)).map (s * ·)))) x y =
        p * r * ((a * e - b * c) ^ t * ev (L t (dX f) (dX g)) (a * x + b * y) (c * x + e * y)) + p * s * ((a * e - b * c) ^ t * ev (L t (dX f) (dY g)) (a * x + b * y) (c * x + e * y)) +
        q * r * ((a * e - b * c) ^ t * ev (L t (dY f) (dX g)) (a * x + b * y) (c * x + e * y)) + q * s * ((a * e - b * c) ^ t * ev (L t (dY f) (dY g)) (a * x + b * y) (c * x + e * y)) := fun p q r s => by
      have ih1 := L_changed (a := a) (b := b) (c := c) (e := e) x y t (dX f) (dX g) (by rw [dX_len]; omega) (by rw [dX_len]; omega)
      have ih2 := L_changed (a := a) (b := b) (c := c) (e := e) x y t (dX f) (dY g) (by rw [dX_len]; omega) (by rw [dY_len]; omega)
      have ih3 := L_changed (a := a) (b := b) (c := c) (e := e) x y t (dY f) (dX g) (by rw [dY_len]; omega) (by rw [dX_len]; omega)
      have ih4 := L_changed (a := a) (b := b) (c := c) (e := e) x y t (dY f) (dY g) (by rw [dY_len]; omega) (by rw [dY_len]; omega)
      rw [L_zsl 1 x y t _ _ _ (by rw [map_len, map_len, lfx, lfy]) (by rw [map_len, lfx]; omega) (by rw [zs_len (by rw [map_len, map_len, lgx, lgy]), map_len, lgx]; omega),
        L_zsr 1 x y t _ _ _ (by rw [map_len, map_len, lgx, lgy]) (by rw [map_len, lfx]; omega) (by rw [map_len, lgx]; omega),
        L_zsr 1 x y t _ _ _ (by rw [map_len, map_len, lgx, lgy]) (by rw [map_len, lfy]; omega) (by rw [map_len, lgx]; omega),
        L_mapl p x y t _ _ (by rw [lfx]; omega) (by rw [map_len, lgx]; omega), L_mapl p x y t _ _ (by rw [lfx]; omega) (by rw [map_len, lgy]; omega),
        L_mapl q x y t _ _ (by rw [lfy]; omega) (by rw [map_len, lgx]; omega), L_mapl q x y t _ _ (by rw [lfy]; omega) (by rw [map_len, lgy]; omega),
        L_mapr r x y t _ _ (by rw [lfx]; omega) (by rw [lgx]; omega), L_mapr s x y t _ _ (by rw [lfx]; omega) (by rw [lgy]; omega),
        L_mapr r x y t _ _ (by rw [lfy]; omega) (by rw [lgx]; omega), L_mapr s x y t _ _ (by rw [lfy]; omega) (by rw [lgy]; omega), ih1, ih2, ih3, ih4]
      grind
    rw [two, two, Int.pow_succ]
    grind
/-! ### sums -/
def su : Nat → (Nat → Int) → Int
  | 0, _ => 0
  | n + 1, φ => su n φ + φ n
theorem su_congr {φ ψ : Nat → Int} : ∀ n, (∀ k, k < n → φ k = ψ k) → su n φ = su n ψ
  | 0, _ => rfl
  | n + 1, h => by
    show su n φ + φ n = su n ψ + ψ n
    rw [su_congr n fun k hk => h k (by omega), h n (by omega)]
theorem su_add (φ ψ : Nat → Int) : ∀ n, su n (fun k => φ k + ψ k) = su n φ + su n ψ
  | 0 => rfl
  | n + 1 => by
    show su n (fun k => φ k + ψ k) + (φ n + ψ n) = su n φ + φ n + (su n ψ + ψ n)
    rw [su_add φ ψ n]
    omega
theorem su_shift (φ : Nat → Int) : ∀ n, su (n + 1) φ = φ 0 + su n (fun k => φ (k + 1))
  | 0 => by show 0 + φ 0 = φ 0 + 0; omega
  | n + 1 => by
    show su (n + 1) φ + φ (n + 1) = φ 0 + (su n (fun k => φ (k + 1)) + φ (n + 1))
    rw [su_shift φ n]
    omega
/-- how many lots -/
def ch : Nat → Nat → Nat
  | _, 0 => 1
  | 0, _ + 1 => 0
  | n + 1, k + 1 => ch n k + ch n (k + 1)
theorem ch_zero (n : Nat) : ch n 0 = 1 := by cases n <;> rfl
theorem ch_far : ∀ n k : Nat, n < k → ch n k = 0
  | n, 0, h => absurd h (Nat.not_lt_zero n)
  | 0, k + 1, _ => rfl
  | n + 1, k + 1, h => by
    show ch n k + ch n (k + 1) = 0
    rw [ch_far n k (by omega), ch_far n (k + 1) (by omega)]
theorem ch_mul : ∀ n k : Nat, (ch n (k + 1) : Int) * ((k : Int) + 1) = ch n k * ((n : Int) - k)
  | 0, k => by
    show ((0 : Nat) : Int) * _ = _
    cases k with
    | zero => show (0 : Int) * _ = 1 * ((0 : Int) - 0); grind
    | succ k => show (0 : Int) * _ = (0 : Int) * _; grind
  | n + 1, 0 => by
    have h := ch_mul n 0
    rw [ch_zero] at h
    show ((ch n 0 + ch n (0 + 1) : Nat) : Int) * _ = ((ch (n + 1) 0 : Nat) : Int) * _
    rw [ch_zero, ch_zero, Int.natCast_add]
    have e : ((0 : Nat) : Int) = 0 := rfl
    rw [e] at h ⊢
    rw [show ((n + 1 : Nat) : Int) = (n : Int) + 1 by omega]
    grind
  | n + 1, k + 1 => by
    have h1 := ch_mul n (k + 1)
    have h2 := ch_mul n k
    show ((ch n (k + 1) + ch n (k + 1 + 1) : Nat) : Int) * _ = ((ch n k + ch n (k + 1) : Nat) : Int) * _
    rw [Int.natCast_add (ch n (k + 1)), Int.natCast_add (ch n k)]
    rw [show ((k + 1 : Nat) : Int) = (k : Int) + 1 by omega] at h1 ⊢
    rw [show ((n + 1 : Nat) : Int) = (n : Int) + 1 by omega]
    grind
/-- the sign of a place -/
def sgn (k : Nat) : Int := if k % 2 = 0 then 1 else -1
theorem sgn_succ (k : Nat) : sgn (k + 1) = -sgn k := by
  unfold sgn
  by_cases h : k % 2 = 0
  · rw [if_pos h, if_neg (by omega)]
  · rw [if_neg h, if_pos (by omega)]
    rfl
theorem dXY (l : List Int) : dX (dY l) = dY (dX l) := by
  refine co_inj (by rw [dX_len, dY_len, dY_len, dX_len]) fun k => ?_
  have a1 : ∀ m : List Int, ∀ k, co (dX m) k = if k < m.length - 1 then co m k * ((m.length : Int) - 1 - k) else 0 := fun m k => co_tb k
  have a2 : ∀ m : List Int, ∀ k, co (dY m) k = if k < m.length - 1 then co m (k + 1) * ((k : Int) + 1) else 0 := fun m k => co_tb k
  rw [a1 (dY l), a2 (dX l), dX_len, dY_len, a1 l, a2 l]
  by_cases h : k < l.length - 1 - 1
  · rw [if_pos h, if_pos h, if_pos (by omega), if_pos (by omega)]
    rw [show ((k + 1 : Nat) : Int) = (k : Int) + 1 by omega, show ((l.length - 1 : Nat) : Int) = (l.length : Int) - 1 by omega]
    grind
  · rw [if_neg h, if_neg h]
theorem it_succ (f : List Int → List Int) (n : Nat) (l : List Int) : it f n (f l) = it f (n + 1) l := by
  induction n with
  | zero => rfl
  | succ n ih => show f (it f n (f l)) = f (it f (n + 1) l); rw [ih]
theorem dX_it_dY (l : List Int) : ∀ n, it dX n (dY l) = dY (it dX n l)
  | 0 => rfl
  | n + 1 => by
    show dX (it dX n (dY l)) = dY (dX (it dX n l))
    rw [dX_it_dY l n, dXY]
theorem dd_dX (i j : Nat) (l : List Int) : dd i j (dX l) = dd (i + 1) j l := by
  unfold dd
  rw [it_succ]
theorem dd_dY (i j : Nat) (l : List Int) : dd i j (dY l) = dd i (j + 1) l := by
  unfold dd
  rw [dX_it_dY, it_succ]
/-- a laying, as a sum -/
theorem L_sum (x y : Int) : ∀ (t : Nat) (f g : List Int), t + 1 ≤ f.length → t + 1 ≤ g.length →
    ev (L t f g) x y = su (t + 1) fun k => sgn k * ch t k * (ev (dd (t - k) k f) x y * ev (dd k (t - k) g) x y)
  | 0, f, g, hf, hg => by
    show ev (ml f g) x y = 0 + 1 * 1 * (ev f x y * ev g x y)
    rw [ev_ml (ne_of2 hf) (ne_of2 hg)]
    grind
  | t + 1, f, g, hf, hg => by
    rw [ev_L_succ (by omega) (by omega), L_sum x y t _ _ (by rw [dX_len]; omega) (by rw [dY_len]; omega), L_sum x y t _ _ (by rw [dY_len]; omega) (by rw [dX_len]; omega)]
    have T : ∃ T : Nat → Int, ∀ k, k ≤ t + 1 → T k = ev (dd (t + 1 - k) k f) x y * ev (dd k (t + 1 - k) g) x y := ⟨_, fun _ _ => rfl⟩
    obtain ⟨T, hT⟩ := T
    have e1 : su (t + 1) (fun k => sgn k * ch t k * (ev (dd (t - k) k (dX f)) x y * ev (dd k (t - k) (dY g)) x y)) = su (t + 1) fun k => sgn k * ch t k * T k := su_congr _ fun k hk => by
      rw [dd_dX, dd_dY, hT k (by omega), show t - k + 1 = t + 1 - k by omega]
    have e2 : su (t + 1) (fun k => sgn k * ch t k * (ev (dd (t - k) k (dY f)) x y * ev (dd k (t - k) (dX g)) x y)) = su (t + 1) fun k => sgn k * ch t k * T (k + 1) := su_congr _ fun k hk => by
      rw [dd_dX, dd_dY, hT (k + 1) (by omega), show t + 1 - (k + 1) = t - k by omega]
    have e3 : su (t + 1 + 1) (fun k => sgn k * ch (t + 1) k * (ev (dd (t + 1 - k) k f) x y * ev (dd k (t + 1 - k) g) x y)) = su (t + 1 + 1) fun k => sgn k * ch (t + 1) k * T k := su_congr _ fun k hk => by
      rw [hT k (by omega)]
    rw [e1, e2, e3, su_shift _ (t + 1)]
    have e4 : su (t + 1) (fun k => sgn (k + 1) * ch (t + 1) (k + 1) * T (k + 1)) = su (t + 1) (fun k => sgn (k + 1) * ch t (k + 1) * T (k + 1)) + su (t + 1) (fun k => -1 * (sgn k * ch t k * T (k + 1))) := by
      rw [← su_add]
      refine su_congr _ fun k hk => ?_
      show sgn (k + 1) * ((ch t k + ch t (k + 1) : Nat) : Int) * T (k + 1) = _
      rw [Int.natCast_add, sgn_succ]
      grind
    have e5 := su_shift (fun k => sgn k * ch t k * T k) (t + 1)
    have e6 : su (t + 1 + 1) (fun k => sgn k * ch t k * T k) = su (t + 1) (fun k => sgn k * ch t k * T k) + sgn (t + 1) * ch t (t + 1) * T (t + 1) := rfl
    have e7 : su (t + 1) (fun k => -1 * (sgn k * ch t k * T (k + 1))) = - su (t + 1) (fun k => sgn k * ch t k * T (k + 1)) := by
      have : ∀ n φ, su n (fun k => -1 * φ k) = - su n φ := by
        intro n φ
        induction n with
        | zero => rfl
        | succ n ih => show su n (fun k => -1 * φ k) + -1 * φ n = -(su n φ + φ n); rw [ih]; omega
      exact this _ _
    rw [e4, e7]
    rw [e6, ch_far t (t + 1) (by omega)] at e5
    rw [ch_zero] at e5 ⊢
    have z0 : sgn (t + 1) * ((0 : Nat) : Int) * T (t + 1) = 0 := by
      rw [show ((0 : Nat) : Int) = 0 from rfl, Int.mul_zero, Int.zero_mul]
    omega
end K40

set_option Elab.async false
set_option linter.all false
set_option maxRecDepth 100000
/-! layings: three forms, powers -/
namespace K40
def fact : Nat → Int
  | 0 => 1
  | n + 1 => fact n * (n + 1)
end K40

set_option Elab.async false
set_option linter.all false
set_option maxRecDepth 100000
set_option maxHeartbeats 4000000
namespace K40
open PySem PySem.Spec PyProof.Rows L2 StX RZ MyR SlX OwnR OwnF EnumT
/-- a loop over enumerate of a list -/
theorem for_enum {K : PySem.W.Frag} {a : Addr} {xs : List V} {g : TG} {tb : TS} {D : Ends} {σ : L2.St} {H : Hp} (Pv : Nat → L2.St → Hp → Prop) (h0 : Pv 0 σ H) (hq : ∀ i σ H, Pv i σ H → SqL K H a xs)
    (hs : ∀ (i : Nat) (x : V) (T : Addr) (σ : L2.St) (H : Hp), xs[i]? = some x → Pv i σ H → H T = none → g (.ref T) σ (upd H T (.tup [.int (i : Nat), x])) fun σ2 H2 => tb { D with nx := Pv (i + 1), ct := Pv (i + 1), bk := D.nx } σ2 H2) (hd : ∀ σ H, Pv xs.length σ H → D.nx σ H) :
    ∃ W : Nat → Nat → L2.St → Hp → Prop, (∃ m, W 0 m σ H) ∧ ∀ i m σ H, W i m σ H →
      ((Ite K a).stop i H ∧ D.nx σ H) ∨ ((Ite K a).go i H ∧ ∃ N : L2.St → Hp → Prop, (∀ σ' H', N σ' H' → ∃ m', m' < m ∧ W (i + 1) m' σ' H') ∧ ∀ v H', (Ite K a).yld i H v H' → g v σ H' fun σ2 H2 => tb { D with nx := N, ct := N, bk := D.nx } σ2 H2) := by
  refine ⟨fun i m σ H => m = xs.length - i ∧ i ≤ xs.length ∧ Pv i σ H, ⟨xs.length, rfl, Nat.zero_le _, h0⟩, ?_⟩
  rintro i m σ H ⟨rfl, hi, p⟩
  have qx := hq i σ H p
  by_cases hlt : i < xs.length
  · have hx : xs[i]? = some xs[i] := List.getElem?_eq_getElem hlt
    refine .inr ⟨⟨xs, _, qx, hx⟩, Pv (i + 1), fun σ' H' p' => ⟨xs.length - (i + 1), by omega, rfl, hlt, p'⟩, fun v H' y => ?_⟩
    obtain ⟨T, x', rfl, hT, rfl, f1⟩ := y
    exact hs i x' T σ H (f1 xs qx) p hT
  · have e : i = xs.length := by omega
    subst e
    exact .inl ⟨⟨xs, qx, Nat.le_refl _⟩, hd σ H p⟩
/-- a comprehension over enumerate of a list -/
theorem lc_enum {K : PySem.W.Frag} {a : Addr} {xs : List V} {g : TG} {tt : TT} {te : TE} {vs : List Nat} {σ : L2.St} {H1 : Hp} {D : Addr} {Qd : Hp → Prop} (Pv : Nat → Hp → Prop) (h0 : Pv 0 (upd H1 D (.lst []))) (hq : ∀ i H, i ≤ xs.length → Pv i H → SqL K H a xs)
    (hs : ∀ (i : Nat) (x : V) (T : Addr) (H : Hp), xs[i]? = some x → Pv i H → H T = none → g (.ref T) (wipe σ vs) (upd H T (.tup [.int (i : Nat), x])) fun σ2 H2 => wipe σ2 vs = wipe σ vs ∧ tt σ2 H2 fun b H3 =>
      if b = true then te σ2 H3 fun y H4 => ∃ acc, H4 D = some (.lst acc) ∧ acc.length < sizeLine ∧ Pv (i + 1) (upd H4 D (.lst (acc ++ [y]))) else Pv (i + 1) H3) (hd : ∀ H, Pv xs.length H → Qd H) :
    ∃ W : Nat → Nat → Hp → Prop, (∃ m, W 0 m (upd H1 D (.lst []))) ∧ ∀ i m H, W i m H →
      ((Ite K a).stop i H ∧ Qd H) ∨ ((Ite K a).go i H ∧ ∃ Nx : Hp → Prop, (∀ H', Nx H' → ∃ m', m' < m ∧ W (i + 1) m' H') ∧ ∀ x H', (Ite K a).yld i H x H' → g x (wipe σ vs) H' fun σ2 H2 => wipe σ2 vs = wipe σ vs ∧ tt σ2 H2 fun b H3 =>
        if b = true then te σ2 H3 fun y H4 => ∃ acc, H4 D = some (.lst acc) ∧ acc.length < sizeLine ∧ Nx (upd H4 D (.lst (acc ++ [y]))) else Nx H3) := by
  refine ⟨fun i m H => m = xs.length - i ∧ i ≤ xs.length ∧ Pv i H, ⟨xs.length, by simp, Nat.zero_le _, h0⟩, ?_⟩
  rintro i m H ⟨rfl, hi, p⟩
  have qx := hq i H hi p
  by_cases hlt : i < xs.length
  · have hx : xs[i]? = some xs[i] := List.getElem?_eq_getElem hlt
    refine .inr ⟨⟨xs, _, qx, hx⟩, Pv (i + 1), fun H' p' => ⟨xs.length - (i + 1), by omega, rfl, hlt, p'⟩, fun v H' y => ?_⟩
    obtain ⟨T, x', rfl, hT, rfl, f1⟩ := y
    exact hs i x' T H (f1 xs qx) p hT
  · have e : i = xs.length := by omega
    subst e
    exact .inl ⟨⟨xs, qx, Nat.le_refl _⟩, hd H p⟩
/-- a list of ints -/
abbrev lp (ns : List Int) : HO := .lst (ns.map V.int)
theorem lcut_init {l : List Int} (h : 1 ≤ l.length) : HO.lst (cutV (l.map V.int) none (some (-1))) = lp (l.take (l.length - 1)) := by
  rw [cut_init _ (by rw [List.length_map]; exact h), ← List.map_take, List.length_map]
theorem lcut_tail {l : List Int} (h : 1 ≤ l.length) : HO.lst (cutV (l.map V.int) (some 1) none) = lp (l.drop 1) := by
  rw [cut_tail _ (by rw [List.length_map]; exact h), ← List.map_drop]
theorem ch_le : ∀ n k : Nat, ch n k ≤ 2 ^ n
  | n, 0 => by rw [ch_zero]; exact Nat.one_le_two_pow
  | 0, k + 1 => Nat.zero_le _
  | n + 1, k + 1 => by
    show ch n k + ch n (k + 1) ≤ _
    have h1 := ch_le n k
    have h2 := ch_le n (k + 1)
    rw [Nat.pow_succ]
    omega
section
variable {P : Program} {w : World} {K : PySem.W.Frag} {mg : Str → Option Value} {base : Heap}
def spLots : Sp := fun vs H Q _ => ∃ n k : Nat, vs = [.int n, .int k] ∧ k ≤ n ∧ n ≤ 50 ∧ Q (.int (ch n k)) H
theorem sm_ch {n k : Nat} (h : n ≤ 50) : sm ((ch n k : Nat) : Int) := by
  show ((ch n k : Nat) : Int).natAbs < _
  rw [Int.natAbs_natCast]
  exact Nat.lt_of_le_of_lt (ch_le n k) (Nat.pow_lt_pow_right (by decide) (by omega))
theorem ok_lots_of (T : Facts K mg) : FnOk P w K mg base CX0 1 T.f_lots_of T.fd_lots_of ["many", "few"] spLots := by
  refine T.F_lots_of.ok sc_lots_of (fun vs H Q E h => ?_) (fun cdv A outer s H vs Q E hr h => ?_)
  · obtain ⟨n, k, rfl, _⟩ := h
    rfl
  · obtain ⟨n, k, rfl, hk, hn, q⟩ := h
    refine ⟨_, (PSs.nox (pss_cons (ps_set (i := 2) sc_lots_of.nd rfl (.inl rfl) pe_int)
    (pss_cons (ps_for PassesOwn.never (by rfl) (pi_range1 (by rfl) T.z_range (pa_cons (pv 1) pa_nil)) (pg_name (i := 3) sc_lots_of.nd rfl (.inl rfl))
      (pss_one (ps_set (i := 2) sc_lots_of.nd rfl (.inl rfl) (pe_op op_fdivZ (pe_op op_mulW (pv 2) (pe_op op_sub (pv 0) (pv 3))) (pe_op op_add (pv 3) pe_int)))))
    (pss_one (ps_ret (pv 2)))))), ?_⟩
    refine ⟨_, rfl, k, rfl, by omega, by omega, for_range (n := (k : Int).toNat) (fun i σ H' => ∃ y3, σ = [some (.int n), some (.int k), some (.int (ch n i)), y3] ∧ H' = H) ⟨none, by rw [ch_zero]; rfl, rfl⟩ (fun i σ H' hi hP => ?_) (fun σ H' hP => ?_)⟩
    · obtain ⟨y3, rfl, rfl⟩ := hP
      have e := ch_mul n i
      have hi1 : (0 : Int) + (i : Int) + 1 ≠ 0 := by omega
      refine ⟨_, rfl, _, rfl, _, rfl, _, _, rfl, rfl, _, _, rfl, rfl, sm_mul (sm_ch hn) (Nat.lt_of_le_of_lt (show ((n : Int) - (0 + (i : Int))).natAbs ≤ 50 by omega) (Nat.lt_of_lt_of_le (show 50 < 2 ^ 7 by decide) (Nat.pow_le_pow_right (by decide) (by decide)))), _, rfl, _, _, rfl, rfl, _, _, rfl, rfl, ⟨hi1, Nat.lt_trans (PySem.Flt.log2_lt_of (k := 10) (by decide) (by show ((0 : Int) + (i : Int) + 1).natAbs < 2 ^ 10; omega)) (by decide)⟩, some (.int (0 + (i : Int))), ?_, rfl⟩
      have e2 : (((ch n i : Nat) : Int) * ((n : Int) - (0 + (i : Int)))).fdiv (0 + (i : Int) + 1) = ((ch n (i + 1) : Nat) : Int) := by
        rw [Int.zero_add, ← e, Int.mul_fdiv_cancel _ (by omega)]
      show [some (V.int n), some (V.int k), some (V.int ((((ch n i : Nat) : Int) * ((n : Int) - (0 + (i : Int)))).fdiv (0 + (i : Int) + 1))), _] = _
      rw [e2]
    · obtain ⟨y3, rfl, rfl⟩ := hP
      rw [Int.toNat_natCast]
      exact ⟨_, rfl, q⟩
def spSlope : Sp := fun vs H Q _ => ∃ (a : Addr) (m : List Int) (b : Bool), vs = [.ref a, .bl b] ∧ H a = some (lp m) ∧ 1 ≤ m.length ∧ m.length ≤ 100 ∧ (∀ z ∈ m, sm z) ∧ ∀ p H', Same H H' → H p = none → H' p = some (lp (if b = true then dY m else dX m)) → Q (.ref p) H'
theorem ok_laying_slope (T : Facts K mg) : FnOk P w K mg base CX0 1 T.f_laying_slope T.fd_laying_slope ["entries", "by_y"] spSlope := by
  refine T.F_laying_slope.ok sc_laying_slope (fun vs H Q E h => ?_) (fun cdv A outer s H vs Q E hr h => ?_)
  · obtain ⟨a, m, b, rfl, _⟩ := h
    rfl
  · obtain ⟨a, m, b, rfl, ha, h1, h2, sm1, q⟩ := h
    refine ⟨_, (PSs.nox (pss_cons (ps_if (pt_val (pv 1))
      (pss_one (ps_ret (pe_lc (own := [("at", 2), ("entry", 3)]) (g := (gTup K 2 (gCons (gName 2) (gCons (gName 3) gNil)))) (tt := tYes) (by rfl) sc_laying_slope.nd (pi_enum (by rfl) T.z_enumerate (pa_cons (pe_slice sl_list (pv 0) (po_some pe_int) po_none) pa_nil)) (blkOk_by (N := N_laying_slope) (sc := defScope s_laying_slope) (by decide +kernel)) (fun _ _ _ _ _ => (pg_tup (by rfl) (pgs_cons (pg_name (i := 2) sc_laying_slope.nd rfl (.inl rfl)) (pgs_cons (pg_name (i := 3) sc_laying_slope.nd rfl (.inl rfl)) pgs_nil)))) (fun _ _ _ _ _ => pts_nil) (fun _ _ _ _ _ => (pe_op op_mulW (pv 3) (pe_op op_add (pv 2) pe_int))))))
      pss_nil)
    (pss_one (ps_ret (pe_lc (own := [("at", 2), ("entry", 3)]) (g := (gTup K 2 (gCons (gName 2) (gCons (gName 3) gNil)))) (tt := tYes) (by rfl) sc_laying_slope.nd (pi_enum (by rfl) T.z_enumerate (pa_cons (pe_slice sl_list (pv 0) po_none (po_some (pe_un un_neg pe_int))) pa_nil)) (blkOk_by (N := N_laying_slope) (sc := defScope s_laying_slope) (by decide +kernel)) (fun _ _ _ _ _ => (pg_tup (by rfl) (pgs_cons (pg_name (i := 2) sc_laying_slope.nd rfl (.inl rfl)) (pgs_cons (pg_name (i := 3) sc_laying_slope.nd rfl (.inl rfl)) pgs_nil)))) (fun _ _ _ _ _ => pts_nil) (fun _ _ _ _ _ => (pe_op op_mulW (pv 3) (pe_op op_sub (pe_op op_sub (pe_callB (call_len_seq : CallR _ _ (Evl.rLenS K)) (by rfl) T.z_len (by decide +kernel) (pa_cons (pv 0) pa_nil)) pe_int) (pv 2))))))))), ?_⟩
    cases b with
    | true =>
      refine ⟨_, rfl, true, rfl, iteT ⟨_, rfl, 1, rfl, a, _, rfl, SqL.of ha, fun p np => ?_⟩⟩
      rw [lcut_tail (by omega)]
      refine gen_upd H p _ np fun H2 s2 f2 => ⟨p, _, rfl, SqL.of f2, fun D hD => lc_enum (xs := (m.drop 1).map V.int) (fun k H' => Same H2 H' ∧ H' D = some (.lst (tab k fun k => co m (k + 1) * ((k : Int) + 1)))) ⟨same_upd0 hD, upd_same⟩ (fun k H' _ hP => SqL.of (hP.1 _ _ f2)) (fun k x B H' hx hP hB => ?_) (fun H3 hP => ?_)⟩
      · obtain ⟨sH, hL⟩ := hP
        obtain ⟨hk, rfl⟩ := int_get hx
        rw [List.length_drop] at hk
        rw [co_drop1]
        refine gen_upd H' B _ hB fun H4 s4 f4 => ⟨B, _, rfl, SqT.of f4, rfl, _, _, rfl, _, _, rfl, rfl, rfl, ?_⟩
        refine ⟨_, rfl, _, rfl, _, _, rfl, rfl, _, _, rfl, rfl, sm_mul (sm_co sm1 (by omega)) (Nat.lt_of_le_of_lt (show ((k : Int) + 1).natAbs ≤ 100 by omega) (Nat.lt_of_lt_of_le (show 100 < 2 ^ 7 by decide) (Nat.pow_le_pow_right (by decide) (by decide)))), _, s4 _ _ hL, ?_, fun b o e => ?_, ?_⟩
        · rw [tab_len]
          exact small1000 (by omega)
        · rw [upd_ne (ne_of_none e hD)]
          exact s4 _ _ (sH _ _ e)
        · rw [upd_same, ← tab_snoc]
      · obtain ⟨sH, hL⟩ := hP
        rw [List.length_map, List.length_drop, tab_tb] at hL
        exact q D H3 (s2.trans sH) (Same.free s2 hD) hL
    | false =>
      refine ⟨_, rfl, false, rfl, iteF ⟨_, rfl, _, rfl, _, rfl, a, _, rfl, SqL.of ha, fun p np => ?_⟩⟩
      rw [lcut_init (by omega)]
      refine gen_upd H p _ np fun H2 s2 f2 => ⟨p, _, rfl, SqL.of f2, fun D hD => lc_enum (xs := (m.take (m.length - 1)).map V.int) (fun k H' => Same H2 H' ∧ H' D = some (.lst (tab k fun k => co m k * ((m.length : Int) - 1 - k)))) ⟨same_upd0 hD, upd_same⟩ (fun k H' _ hP => SqL.of (hP.1 _ _ f2)) (fun k x B H' hx hP hB => ?_) (fun H3 hP => ?_)⟩
      · obtain ⟨sH, hL⟩ := hP
        obtain ⟨hk, rfl⟩ := int_get hx
        rw [List.length_take] at hk
        rw [co_take (by omega)]
        refine gen_upd H' B _ hB fun H4 s4 f4 => ⟨B, _, rfl, SqT.of f4, rfl, _, _, rfl, _, _, rfl, rfl, rfl, ?_⟩
        have hfB := (s2.trans (sH.trans s4)) _ _ ha
        refine ⟨_, rfl, _, rfl, a, _, rfl, .inl (SqL.of hfB), ?_⟩
        rw [List.length_map]
        refine ⟨_, _, rfl, rfl, _, rfl, _, _, rfl, rfl, _, _, rfl, rfl, sm_mul (sm_co sm1 (by omega)) (Nat.lt_of_le_of_lt (show ((m.length : Int) - 1 - (k : Int)).natAbs ≤ 100 by omega) (Nat.lt_of_lt_of_le (show 100 < 2 ^ 7 by decide) (Nat.pow_le_pow_right (by decide) (by decide)))), _, s4 _ _ hL, ?_, fun b o e => ?_, ?_⟩
        · rw [tab_len]
          exact small1000 (by omega)
        · rw [upd_ne (ne_of_none e hD)]
          exact s4 _ _ (sH _ _ e)
        · rw [upd_same, ← tab_snoc]
      · obtain ⟨sH, hL⟩ := hP
        rw [List.length_map, List.length_take, Nat.min_eq_left (by omega), tab_tb] at hL
        exact q D H3 (s2.trans sH) (Same.free s2 hD) hL
end
end K40

set_option Elab.async false
set_option linter.all false
set_option maxRecDepth 100000
set_option maxHeartbeats 4000000
namespace K40
open PySem PySem.Spec PyProof.Rows L2 StX RZ MyR SlX OwnR OwnF EnumT
theorem dX_itY (l : List Int) : ∀ j, dX (it dY j l) = it dY j (dX l)
  | 0 => rfl
  | j + 1 => by
    show dX (dY (it dY j l)) = dY (it dY j (dX l))
    rw [dXY, dX_itY l j]
theorem dX_dd (i j : Nat) (l : List Int) : dX (dd i j l) = dd (i + 1) j l := by
  unfold dd
  rw [dX_itY]
  rfl
theorem dY_dd (i j : Nat) (l : List Int) : dY (dd i j l) = dd i (j + 1) l := rfl
/-- lists of ints: where they stand, what they hold -/
structure Ll (H : Hp) (rs : List Addr) (n : Nat) (φ : Nat → List Int) : Prop where
  len : rs.length = n
  row : ∀ k (h : k < rs.length), H rs[k] = some (lp (φ k))
theorem Ll.same {H H' : Hp} {rs : List Addr} {n : Nat} {φ : Nat → List Int} (h : Ll H rs n φ) (s : Same H H') : Ll H' rs n φ := ⟨h.len, fun k hk => s _ _ (h.row k hk)⟩
theorem Ll.snoc {H H' : Hp} {rs : List Addr} {n : Nat} {φ : Nat → List Int} {p : Addr} {l : List Int} (h : Ll H rs n φ) (s : ∀ k (hk : k < rs.length), H' rs[k] = H rs[k]) (hp : H' p = some (lp l)) (e : l = φ n) : Ll H' (rs ++ [p]) (n + 1) φ := by
  refine ⟨by rw [List.length_append, h.len]; rfl, fun k hk => ?_⟩
  by_cases c : k < rs.length
  · rw [show (rs ++ [p])[k] = rs[k] from List.getElem_append_left _, s k c]
    exact h.row k c
  · have ek : k = rs.length := by rw [List.length_append] at hk; simp at hk; omega
    subst ek
    rw [show (rs ++ [p])[rs.length] = p by rw [List.getElem_append_right (Nat.le_refl _)]; simp, hp, e, h.len]
/-- all these addresses are free -/
def Fr (H : Hp) (rs : List Addr) : Prop := ∀ r ∈ rs, H r = none
theorem Fr.snoc {H : Hp} {rs : List Addr} {p : Addr} (h : Fr H rs) (hp : H p = none) : Fr H (rs ++ [p]) := fun r hr => by
  rcases List.mem_append.mp hr with e | e
  · exact h r e
  · rw [List.mem_singleton.mp e]
    exact hp
theorem get_ref {rs : List Addr} {i : Nat} {x : V} (h : (rs.map V.ref)[i]? = some x) : ∃ hi : i < rs.length, x = .ref rs[i] := by
  rw [List.getElem?_map] at h
  obtain ⟨b, hb, rfl⟩ := Option.map_eq_some_iff.mp h
  obtain ⟨h1, e1⟩ := List.getElem?_eq_some_iff.mp hb
  exact ⟨h1, by rw [e1]⟩
section
variable {P : Program} {w : World} {K : PySem.W.Frag} {mg : Str → Option Value} {base : Heap}
def spSlopes : Sp := fun vs H Q _ => ∃ (a : Addr) (l : List Int) (t : Nat), vs = [.ref a, .int t] ∧ H a = some (tp l) ∧ t + 1 ≤ l.length ∧ l.length ≤ 100 ∧ (∀ i j, i + j ≤ t → ∀ z ∈ dd i j l, sm z) ∧
  ∀ p rs H', Same H H' → H p = none → Fr H rs → H' p = some (.lst (rs.map V.ref)) → Ll H' rs (t + 1) (fun k => dd (t - k) k l) → Q (.ref p) H'
theorem ok_laying_slopes (T : Facts K mg) : FnOk P w K mg base CX0 2 T.f_laying_slopes T.fd_laying_slopes ["entries", "times"] spSlopes := by
  have G_laying_slope := ok_laying_slope (P := P) (w := w) (base := base) T
  refine T.F_laying_slopes.ok sc_laying_slopes (fun vs H Q E h => ?_) (fun cdv A outer s H vs Q E hr h => ?_)
  · obtain ⟨a, l, t, rfl, _⟩ := h
    rfl
  · obtain ⟨a, l, t, rfl, ha, h1, h2, hs, q⟩ := h
    refine ⟨_, (PSs.nox (pss_cons (ps_set (i := 2) sc_laying_slopes.nd rfl (.inl rfl) (pe_lst (pa_cons (pe_callTy call_list_of (by rfl) T.z_list (by decide +kernel) (pa_cons (pv 0) pa_nil)) pa_nil)))
    (pss_cons (ps_for PassesOwn.never (by rfl) (pi_range1 (by rfl) T.z_range (pa_cons (pv 1) pa_nil)) (pg_name (i := 3) sc_laying_slopes.nd rfl (.inl rfl))
      (pss_one (ps_set (i := 2) sc_laying_slopes.nd rfl (.inl rfl) (pe_lst (pa_star (pe_lc (own := [("one", 4)]) (g := (gName 4)) (tt := tYes) (by rfl) sc_laying_slopes.nd (pi_list (pv 2)) (blkOk_by (N := N_laying_slopes) (sc := defScope s_laying_slopes) (by decide +kernel)) (fun _ _ _ _ _ => (pg_name (i := 4) sc_laying_slopes.nd rfl (.inl rfl))) (fun _ _ _ _ _ => pts_nil) (fun _ _ _ _ _ => (pe_call G_laying_slope hr (by rfl) T.g_laying_slope T.F_laying_slope.kp T.b_laying_slope .nil pass0 (pa_cons (pv 4) (pa_cons pe_bl pa_nil))))) (pa_cons (pe_call G_laying_slope hr (by rfl) T.g_laying_slope T.F_laying_slope.kp T.b_laying_slope .nil pass0 (pa_cons (pe_ix ix_list (pv 2) (pe_un un_neg pe_int) (fun _ _ => rfl)) (pa_cons pe_bl pa_nil))) pa_nil))))))
    (pss_one (ps_ret (pv 2)))))), ?_⟩
    refine ⟨_, rfl, a, _, rfl, .inr (SqT.of ha), fun p0 n0 => gen_upd H p0 (lp l) n0 fun H1 s1 f1 => ⟨by show 1 ≤ sizeLine; decide, fun p1 n1 => gen_upd H1 p1 (.lst [.ref p0]) n1 fun H2 s2 f2 => ?_⟩⟩
    refine ⟨_, rfl, t, rfl, by omega, by omega, for_range (n := (t : Int).toNat) (fun u σ H' => ∃ fa rs y3, σ = [some (.ref a), some (.int t), some (.ref fa), y3, none] ∧ Same H H' ∧ H fa = none ∧ Fr H rs ∧ H' fa = some (.lst (rs.map V.ref)) ∧ Ll H' rs (u + 1) (fun k => dd (u - k) k l)) ⟨p1, [p0], none, rfl, s1.trans s2, Same.free s1 n1, fun r hr => by rw [List.mem_singleton.mp hr]; exact n0, f2, ⟨rfl, fun k hk => ?_⟩⟩ (fun u σ H' hu hP => ?_) (fun σ H' hP => ?_)⟩
    · have k0 : k = 0 := by have : k < 1 := hk; omega
      subst k0
      exact s2 _ _ f1
    · obtain ⟨fa, rs, y3, rfl, sH, nfa, fr, hfa, ll⟩ := hP
      have hu2 : u < t := by omega
      refine ⟨_, rfl, fa, rfl, ⟨_, SqL.of hfa⟩, fun D hD => lc_list (xs := rs.map V.ref) (fun j H3 => Same H' H3 ∧ ∃ ss, H3 D = some (.lst (ss.map V.ref)) ∧ Fr H ss ∧ Ll H3 ss j (fun k => dd (u + 1 - k) k l)) ⟨same_upd0 hD, [], upd_same, fun r hr => (nomatch hr), rfl, fun k hk => absurd hk (Nat.not_lt_zero k)⟩ (fun j H3 _ hP3 => SqL.of (hP3.1 _ _ hfa)) (fun j x H3 hx hP3 => ?_) (fun H3 hP3 => ?_)⟩
      · obtain ⟨s3, ss, hL, fs, l3⟩ := hP3
        obtain ⟨hj, rfl⟩ := get_ref hx
        have hj2 : j < u + 1 := by rw [← ll.len]; exact hj
        have hrow := s3 _ _ (ll.row j hj)
        have dl := dd_len (u - j) j l
        refine ⟨rfl, _, rfl, rs[j], _, false, rfl, hrow, by omega, by omega, hs (u - j) j (by omega), fun p4 H4 s4 n4 f4 => ?_⟩
        have hL4 := s4 _ _ hL
        have nD4 : ∀ q ls, H4 q = some (lp ls) → H3 q = none ∨ True → q ≠ D ∨ True := fun _ _ _ _ => .inr True.intro
        have p4D : p4 ≠ D := fun z => by rw [z, hL] at n4; cases n4
        have dH : ∀ b o, H' b = some o → b ≠ D := fun b o e => ne_of_none e hD
        refine ⟨_, hL4, by rw [List.length_map, l3.len]; exact small1000 (by omega), fun b o e => ?_, ss ++ [p4], by rw [upd_same, List.map_append]; rfl, fs.snoc (Same.free sH (Same.free s3 n4)), l3.snoc (fun k hk => ?_) (by rw [upd_ne p4D]; exact f4) ?_⟩
        · rw [upd_ne (dH b o e)]
          exact s4 _ _ (s3 _ _ e)
        · have e3 := l3.row k hk
          have nk : ss[k] ≠ D := fun z => by
            have e4 := e3
            rw [z, hL] at e4
            have hh := HO.lst.inj (Option.some.inj e4)
            have dl2 := dd_len (u + 1 - k) k l
            have hk2 : k < j := by rw [← l3.len]; exact hk
            have c0 := congrArg (fun zs => zs[0]?) hh
            have : 0 < (dd (u + 1 - k) k l).length := by omega
            have : 0 < ss.length := by omega
            simp only [List.getElem?_map] at c0
            rw [List.getElem?_eq_getElem (by omega), List.getElem?_eq_getElem (by omega)] at c0
            cases c0
          rw [upd_ne nk, s4 _ _ e3, e3]
        · rw [if_neg (by decide), dX_dd]
          rw [show u - j + 1 = u + 1 - j by omega]
      · obtain ⟨s3, ss, hL, fs, l3⟩ := hP3
        rw [List.length_map, ll.len] at l3
        refine ⟨D, _, rfl, .inr (SqL.of hL), ?_⟩
        obtain ⟨rs0, rl, ers⟩ : ∃ rs0 rl, rs = rs0 ++ [rl] := ⟨rs.dropLast, rs.getLast (fun z => by have := ll.len; rw [z] at this; cases this), (List.dropLast_concat_getLast _).symm⟩
        have lr0 : rs0.length = u := by have := ll.len; rw [ers, List.length_append] at this; simp at this; exact this
        have hrl : H' rl = some (lp (dd 0 u l)) := by
          have := ll.row u (by rw [ll.len]; omega)
          rw [Nat.sub_self] at this
          rw [← this]
          congr 1
          simp only [ers]
          rw [List.getElem_append_right (by omega)]
          simp [lr0]
        have hfa' : H' fa = some (.lst (rs0.map V.ref ++ [.ref rl])) := by rw [hfa, ers, List.map_append]; rfl
        have dl := dd_len 0 u l
        refine ⟨_, rfl, _, rfl, fa, _, _, _, rfl, rfl, SqL.of (s3 _ _ hfa'), atI_last _ _, rl, _, true, rfl, s3 _ _ hrl, by omega, by omega, hs 0 u (by omega), fun p5 H5 s5 n5 f5 => ?_⟩
        refine ⟨by rw [List.length_append, List.length_map, l3.len]; exact Nat.le_of_lt (small1000 (by show u + 1 + 1 ≤ 1000; omega)), fun p6 n6 => gen_upd H5 p6 _ n6 fun H6 s6 f6 => ?_⟩
        refine ⟨p6, ss ++ [p5], _, rfl, ((sH.trans s3).trans s5).trans s6, Same.free sH (Same.free s3 (Same.free s5 n6)), fs.snoc (Same.free sH (Same.free s3 n5)), by rw [f6, List.map_append]; rfl, l3.snoc (fun k hk => ?_) (s6 _ _ f5) ?_⟩
        · have e3 := l3.row k hk
          rw [(s5.trans s6) _ _ e3, e3]
        · rw [if_pos rfl, dY_dd, Nat.sub_self]
    · obtain ⟨fa, rs, y3, rfl, sH, nfa, fr, hfa, ll⟩ := hP
      rw [Int.toNat_natCast] at ll
      exact ⟨_, rfl, q fa rs H' sH nfa fr hfa ll⟩
end
end K40

set_option Elab.async false
set_option linter.all false
set_option maxRecDepth 100000
set_option maxHeartbeats 4000000
namespace K40
open PySem PySem.Spec PyProof.Rows L2 StX RZ MyR SlX OwnR OwnF EnumT
theorem tab_inj {n : Nat} {f g : Nat → Int} (h : f = g) : tab n f = tab n g := by rw [h]
/-- the entries so far of a laying -/
def Lc (t : Nat) (f g : List Int) (i k : Nat) : Int := su i fun j => sgn j * ch t j * cv (dd (t - j) j f) (co (dd j (t - j) g)) k
theorem evF_su (N : Nat) (φ : Nat → Nat → Int) (x y : Int) : ∀ n, evF N (fun k => su n fun j => φ j k) x y = su n fun j => evF N (φ j) x y
  | 0 => evF_zero x y N
  | n + 1 => by
    show evF N (fun k => su n (fun j => φ j k) + φ n k) x y = su n (fun j => evF N (φ j) x y) + evF N (φ n) x y
    rw [evF_add, evF_su N φ x y n]
theorem L_tab {t : Nat} {f g : List Int} (hf : t + 1 ≤ f.length) (hg : t + 1 ≤ g.length) : tb (f.length + g.length - 1 - 2 * t) (Lc t f g (t + 1)) = L t f g := by
  refine ev_inj (by rw [tb_len, L_len t f g hf hg]) fun x y => ?_
  rw [ev_tb, L_sum x y t f g hf hg]
  unfold Lc
  rw [evF_su]
  refine su_congr _ fun j hj => ?_
  have l1 := dd_len (t - j) j f
  have l2 := dd_len j (t - j) g
  have n1 : dd (t - j) j f ≠ [] := ne_of2 (by omega)
  have n2 : dd j (t - j) g ≠ [] := ne_of2 (by omega)
  rw [evF_mul]
  congr 1
  rw [← ev_ml n1 n2]
  unfold ev
  rw [ml_len, show (dd (t - j) j f).length + (dd j (t - j) g).length - 1 = f.length + g.length - 1 - 2 * t by omega]
  exact evF_congr _ fun k _ => (co_ml n2 k).symm
/-- what is asked of what is laid -/
structure LdOk (t : Nat) (f g : List Int) : Prop where
  lf : t + 1 ≤ f.length
  lg : t + 1 ≤ g.length
  mf : f.length ≤ 42
  mg : g.length ≤ 42
  sf : ∀ i j, i + j ≤ t → nm (dd i j f) ≤ 2 ^ 1700
  sg : ∀ i j, i + j ≤ t → nm (dd i j g) ≤ 2 ^ 1700
theorem lt400 {x i : Nat} (h : x ≤ 2 ^ i) (hi : i < 4000) : x < 2 ^ 4000 := Nat.lt_of_le_of_lt h (Nat.pow_lt_pow_right (by decide) hi)
theorem LdOk.smf {t : Nat} {f g : List Int} (h : LdOk t f g) (i j : Nat) (hij : i + j ≤ t) : ∀ z ∈ dd i j f, sm z := fun z hz => lt400 (Nat.le_trans (nm_mem hz) (h.sf i j hij)) (by decide)
theorem LdOk.smg {t : Nat} {f g : List Int} (h : LdOk t f g) (i j : Nat) (hij : i + j ≤ t) : ∀ z ∈ dd i j g, sm z := fun z hz => lt400 (Nat.le_trans (nm_mem hz) (h.sg i j hij)) (by decide)
section
variable {P : Program} {w : World} {K : PySem.W.Frag} {mg : Str → Option Value} {base : Heap}
def spAddP : Sp := fun vs H Q _ => ∃ (R a b : Addr) (N : Nat) (g : Nat → Int) (xs ys : List Int) (c : Int), vs = [.ref R, .ref a, .ref b, .int c] ∧ H R = some (.lst (tab N g)) ∧ H a = some (lp xs) ∧ H b = some (lp ys) ∧ a ≠ R ∧ b ≠ R ∧ xs.length + ys.length ≤ N + 1 ∧ N ≤ 900 ∧
  (∀ x ∈ xs, sm x ∧ sm (c * x)) ∧ (∀ y ∈ ys, sm y) ∧ sm c ∧ ∀ H', Sx R H H' → H' R = some (.lst (tab N fun k => g k + c * cv xs (co ys) k)) → Q .non H'
theorem ok_add_product (T : Facts K mg) : FnOk P w K mg base CX0 1 T.f_add_product T.fd_add_product ["found", "one", "other", "factor"] spAddP := by
  refine T.F_add_product.ok sc_add_product (fun vs H Q E h => ?_) (fun cdv A outer s H vs Q E hr h => ?_)
  · obtain ⟨R, a, b, N, g, xs, ys, c, rfl, _⟩ := h
    rfl
  · obtain ⟨R, a, b, N, g, xs, ys, c, rfl, hR, ha, hb, naR, nbR, hN, hN9, hx, hy, hc, q⟩ := h
    refine ⟨_, (PSs.nox (pss_one (ps_for PassesOwn.never (by rfl) (pi_enum (by rfl) T.z_enumerate (pa_cons (pv 1) pa_nil)) (pg_tup (by rfl) (pgs_cons (pg_name (i := 4) sc_add_product.nd rfl (.inl rfl)) (pgs_cons (pg_name (i := 5) sc_add_product.nd rfl (.inl rfl)) pgs_nil)))
      (pss_one (ps_for PassesOwn.never (by rfl) (pi_enum (by rfl) T.z_enumerate (pa_cons (pv 2) pa_nil)) (pg_tup (by rfl) (pgs_cons (pg_name (i := 6) sc_add_product.nd rfl (.inl rfl)) (pgs_cons (pg_name (i := 7) sc_add_product.nd rfl (.inl rfl)) pgs_nil)))
        (pss_one (ps_augS (pv 0) (pe_op op_add (pv 4) (pv 6)) OwnC.get_list (pe_op op_mulW (pe_op op_mulW (pv 3) (pv 5)) (pv 7)) ip_add set_list))))))), ?_⟩
    refine ⟨_, rfl, a, _, rfl, SqL.of ha, for_enum (xs := xs.map V.int) (fun i σ H' => ∃ y4 y5 y6 y7, σ = [some (.ref R), some (.ref a), some (.ref b), some (.int c), y4, y5, y6, y7] ∧ Sx R H H' ∧ H' R = some (.lst (tab N fun k => g k + c * cv (xs.take i) (co ys) k))) ⟨none, none, none, none, rfl, Sx.refl R H, ?_⟩ (fun i σ H' hP => ?_) (fun i x B σ H' hxi hP hB => ?_) (fun σ H' hP => ?_)⟩
    · rw [hR]
      congr 2
      refine tab_inj (funext fun k => ?_)
      show g k = g k + c * 0
      omega
    · obtain ⟨y4, y5, y6, y7, _, sH, _⟩ := hP
      exact SqL.of (sH _ _ naR ha)
    · obtain ⟨y4, y5, y6, y7, rfl, sH, hL⟩ := hP
      obtain ⟨hi2, rfl⟩ := int_get hxi
      refine ⟨B, _, rfl, SqT.of upd_same, rfl, _, _, rfl, _, _, rfl, rfl, ?_⟩
      refine gen_upd H' B _ hB (fun H2 s2 _ => ?_)
      have sH2 : Sx R H H2 := sH.trans (Sx.of s2)
      have hL2 := s2 _ _ hL
      rw [tab_ext (g := fun k => g k + c * J xs (co ys) i 0 k) fun k hk => by rw [J_0]] at hL2
      refine ⟨_, rfl, b, _, rfl, SqL.of (sH2 _ _ nbR hb), for_enum (xs := ys.map V.int) (fun j σ H3 => ∃ y6 y7, σ = [some (.ref R), some (.ref a), some (.ref b), some (.int c), some (.int ((i : Nat) : Int)), some (.int (co xs i)), y6, y7] ∧ Sx R H H3 ∧ H3 R = some (.lst (tab N fun k => g k + c * J xs (co ys) i j k))) ⟨y6, y7, rfl, sH2, hL2⟩ (fun j σ H3 hP => ?_) (fun j y B2 σ H3 hyj hP hB2 => ?_) (fun σ H3 hP => ?_)⟩
      · obtain ⟨y6, y7, _, sH3, _⟩ := hP
        exact SqL.of (sH3 _ _ nbR hb)
      · obtain ⟨y6, y7, rfl, sH3, hL3⟩ := hP
        obtain ⟨hj2, rfl⟩ := int_get hyj
        refine ⟨B2, _, rfl, SqT.of upd_same, rfl, _, _, rfl, _, _, rfl, rfl, ?_⟩
        refine gen_upd H3 B2 _ hB2 (fun H4 s4 _ => ?_)
        have sH4 : Sx R H H4 := sH3.trans (Sx.of s4)
        have hL4 := s4 _ _ hL3
        have e1 : ((i : Nat) : Int) + ((j : Nat) : Int) = ((i + j : Nat) : Int) := by omega
        obtain ⟨sx, scx⟩ := hx (co xs i) (by rw [co_get hi2]; exact List.getElem_mem hi2)
        refine ⟨_, rfl, _, rfl, _, rfl, _, _, rfl, rfl, R, _, i + j, _, rfl, by rw [← e1], SqL.of hL4, tab_get (by omega), ?_⟩
        refine ⟨_, rfl, _, rfl, _, _, rfl, rfl, sm_mul hc sx, _, rfl, _, _, rfl, rfl, sm_mul scx (sm_co hy hj2), _, _, rfl, rfl, R, _, _, (i + j), rfl, rfl, hL4, ?_, ?_⟩
        · rw [tab_len]
          exact ix_at e1 (by omega)
        · refine ⟨_, _, rfl, fun d o n e => ?_, ?_⟩
          · rw [upd_ne n]
            exact sH4 _ _ n e
          · rw [upd_same]
            show some (HO.lst ((tab N fun k => g k + c * J xs (co ys) i j k).set (i + j) (.int (g (i + j) + c * J xs (co ys) i j (i + j) + c * co xs i * co ys j)))) = _
            rw [tab_set]
            congr 2
            refine tab_ext fun k hk => ?_
            rw [← J_step]
            by_cases z : k = i + j
            · subst z
              rw [if_pos rfl, if_pos rfl]
              grind
            · rw [if_neg z, if_neg z]
      · obtain ⟨y6, y7, rfl, sH3, hL3⟩ := hP
        rw [List.length_map, tab_ext (g := fun k => g k + c * cv (xs.take (i + 1)) (co ys) k) fun k hk => by rw [J_end hi2]] at hL3
        exact ⟨_, _, _, _, rfl, sH3, hL3⟩
    · obtain ⟨y4, y5, y6, y7, rfl, sH, hL⟩ := hP
      rw [List.length_map, List.take_length] at hL
      exact q H' sH hL
end
end K40

set_option Elab.async false
set_option linter.all false
set_option maxRecDepth 100000
set_option maxHeartbeats 4000000
namespace K40
open PySem PySem.Spec PyProof.Rows L2 StX RZ MyR SlX OwnR OwnF EnumT
section
variable {P : Program} {w : World} {K : PySem.W.Frag} {mg : Str → Option Value} {base : Heap}
theorem sgn_abs (k : Nat) : (sgn k).natAbs = 1 := by
  unfold sgn
  split <;> rfl
theorem tab_rep0 (n : Nat) : (List.replicate n [V.int 0]).flatten = tab n fun _ => 0 := by
  rw [← tab_rep]
  induction n with
  | zero => rfl
  | succ n ih => rw [List.replicate_succ, List.flatten_cons, ih, List.replicate_succ]; rfl
def spLaidIn : Sp := fun vs H Q _ => ∃ (a b : Addr) (f g : List Int) (t : Nat), vs = [.ref a, .ref b, .int t] ∧ H a = some (tp f) ∧ H b = some (tp g) ∧ LdOk t f g ∧ ∀ p H', Same H H' → H' p = some (tp (L t f g)) → Q (.ref p) H'
theorem ok_laid_in (T : Facts K mg) : FnOk P w K mg base CX0 3 T.f_laid_in T.fd_laid_in ["one", "other", "times"] spLaidIn := by
  have G_laying_slopes := ok_laying_slopes (P := P) (w := w) (base := base) T
  have G_add_product := ok_add_product (P := P) (w := w) (base := base) T
  have G_lots_of := ok_lots_of (P := P) (w := w) (base := base) T
  refine T.F_laid_in.ok sc_laid_in (fun vs H Q E h => ?_) (fun cdv A outer s H vs Q E hr h => ?_)
  · obtain ⟨a, b, f, g, t, rfl, _⟩ := h
    rfl
  · obtain ⟨a, b, f, g, t, rfl, ha, hb, ok, q⟩ := h
    have lf := ok.lf
    have lg := ok.lg
    have mf := ok.mf
    have mg' := ok.mg
    refine ⟨_, (PSs.nox (pss_cons (ps_set (i := 3) sc_laid_in.nd rfl (.inl rfl) (pe_op op_rep (pe_lst (pa_cons pe_int pa_nil)) (pe_op op_sub (pe_op op_sub (pe_op op_add (pe_callB call_len_seq (by rfl) T.z_len (by decide +kernel) (pa_cons (pv 0) pa_nil)) (pe_callB call_len_seq (by rfl) T.z_len (by decide +kernel) (pa_cons (pv 1) pa_nil))) pe_int) (pe_op op_mulW pe_int (pv 2)))))
    (pss_cons (ps_par (i := 4) (j := 5) (by rfl) sc_laid_in.nd rfl rfl (by decide) rfl rfl (pa_cons (pe_call G_laying_slopes hr (by rfl) T.g_laying_slopes T.F_laying_slopes.kp T.b_laying_slopes .nil pass0 (pa_cons (pv 0) (pa_cons (pv 2) pa_nil))) (pa_cons (pe_call G_laying_slopes hr (by rfl) T.g_laying_slopes T.F_laying_slopes.kp T.b_laying_slopes .nil pass0 (pa_cons (pv 1) (pa_cons (pv 2) pa_nil))) pa_nil)) (by rfl))
    (pss_cons (ps_for PassesOwn.never (by rfl) (pi_range1 (by rfl) T.z_range (pa_cons (pe_op op_add (pv 2) pe_int) pa_nil)) (pg_name (i := 6) sc_laid_in.nd rfl (.inl rfl))
      (pss_one (ps_expr (pe_call G_add_product (hr.mono (by decide)) (by rfl) T.g_add_product T.F_add_product.kp T.b_add_product .nil pass0 (pa_cons (pv 3) (pa_cons (pe_ix ix_list (pv 4) (pv 6) (fun _ _ => rfl)) (pa_cons (pe_ix ix_list (pv 5) (pe_op op_sub (pv 2) (pv 6)) (fun _ _ => rfl)) (pa_cons (pe_op op_mulW (pe_call G_lots_of (hr.mono (by decide)) (by rfl) T.g_lots_of T.F_lots_of.kp T.b_lots_of .nil pass0 (pa_cons (pv 2) (pa_cons (pv 6) pa_nil))) (pe_ifExp (pt_cmpR op_eq (pe_op op_mod (pv 6) pe_int) pe_int (nomark _)) pe_int (pe_un un_neg pe_int))) pa_nil))))))))
    (pss_one (ps_ret (pe_tupleOf (by rfl) T.z_tuple (pv 3)))))))), ?_⟩
    refine ⟨by show 1 ≤ sizeLine; decide, fun p0 n0 => gen_upd H p0 (.lst [.int 0]) n0 fun H0 s0 f0 => ⟨_, rfl, a, _, rfl, .inr (SqT.of (s0 _ _ ha)), _, rfl, b, _, rfl, .inr (SqT.of (s0 _ _ hb)), ?_⟩⟩
    rw [List.length_map, List.length_map]
    refine ⟨_, _, rfl, rfl, _, _, rfl, rfl, _, rfl, _, _, rfl, rfl, sm_mul (show sm 2 by show (2 : Nat) < 2 ^ 4000; exact lt400 (i := 1) (by decide) (by decide)) (sm_le (n := 100) (show ((t : Nat) : Int).natAbs ≤ 100 by omega) (by decide)), _, _, rfl, rfl, ?_⟩
    obtain ⟨N, hN⟩ : ∃ N, N = f.length + g.length - 1 - 2 * t := ⟨_, rfl⟩
    have eN : ((f.length : Int) + (g.length : Int) - 1 - 2 * (t : Int)) = (N : Int) := by omega
    dsimp only []
    rw [eN]
    have hz1 : [V.int 0].length * (N : Int).toNat ≤ sizeLine := by
      have hz : (1000 : Nat) ≤ sizeLine := by decide
      show 1 * (N : Int).toNat ≤ sizeLine
      omega
    refine ⟨p0, N, _, rfl, rfl, f0, by omega, by omega, hz1, fun R nR => ?_⟩
    rw [Int.toNat_natCast, tab_rep0]
    refine gen_upd H0 R _ nR fun H1 s1 f1 => ?_
    have s01 := s0.trans s1
    refine ⟨_, rfl, _, rfl, a, f, t, rfl, s01 _ _ ha, by omega, by omega, ok.smf, fun p2 rs H2 s2 n2 fr2 h2 l2 => ?_⟩
    refine ⟨_, rfl, _, rfl, b, g, t, rfl, (s01.trans s2) _ _ hb, by omega, by omega, ok.smg, fun p3 rs' H3 s3 n3 fr3 h3 l3 => ⟨_, _, rfl, ?_⟩⟩
    have f3 := (s2.trans s3) _ _ f1
    have h2' := s3 _ _ h2
    have l2' := l2.same s3
    have ne2 : ∀ r ∈ rs, r ≠ R := fun r hr z => by have := fr2 r hr; rw [z, f1] at this; cases this
    have ne3 : ∀ r ∈ rs', r ≠ R := fun r hr z => by have := fr3 r hr; rw [z, s2 _ _ f1] at this; cases this
    have nR2 : p2 ≠ R := fun z => by rw [z, f1] at n2; cases n2
    have nR3 : p3 ≠ R := fun z => by rw [z, s2 _ _ f1] at n3; cases n3
    have nHR : ∀ d o, H d = some o → d ≠ R := fun d o e => ne_of_none (s0 _ _ e) nR
    refine ⟨_, rfl, _, _, rfl, rfl, _, rfl, by omega, by omega, for_range (n := ((t : Int) + 1).toNat) (fun i σ H' => ∃ y6, σ = [some (.ref a), some (.ref b), some (.int t), some (.ref R), some (.ref p2), some (.ref p3), y6] ∧ Sx R H3 H' ∧ H' R = some (.lst (tab N (Lc t f g i)))) ⟨none, rfl, Sx.refl R H3, f3⟩ (fun i σ H' hi hP => ?_) (fun σ H' hP => ?_)⟩
    · obtain ⟨y6, rfl, sH, hL⟩ := hP
      have hi2 : i ≤ t := by omega
      have ei : (0 : Int) + (i : Int) = ((i : Nat) : Int) := by omega
      have et : (t : Int) - (0 + (i : Int)) = ((t - i : Nat) : Int) := by omega
      have hr1 : i < rs.length := by rw [l2'.len]; omega
      have hr2 : t - i < rs'.length := by rw [l3.len]; omega
      have q1 := sH _ _ (ne2 _ (List.getElem_mem hr1)) (l2'.row i hr1)
      have q2 := sH _ _ (ne3 _ (List.getElem_mem hr2)) (l3.row (t - i) hr2)
      rw [show t - (t - i) = i by omega] at q2
      refine ⟨_, rfl, _, rfl, _, rfl, p2, _, _, _, rfl, rfl, SqL.of (sH _ _ nR2 h2'), at_of ei (by rw [List.getElem?_map, List.getElem?_eq_getElem hr1]; rfl), ?_⟩
      refine ⟨_, rfl, _, rfl, _, rfl, _, _, rfl, rfl, p3, _, _, _, rfl, rfl, SqL.of (sH _ _ nR3 h3), at_of et (by rw [List.getElem?_map, List.getElem?_eq_getElem hr2]; rfl), ?_⟩
      have lotE : [V.int (t : Int), V.int (0 + (i : Int))] = [V.int (t : Int), V.int (i : Int)] := by rw [ei]
      have l1 := dd_len (t - i) i f
      have l2 := dd_len i (t - i) g
      refine ⟨_, rfl, _, rfl, t, i, lotE, hi2, by omega, ?_⟩
      refine ⟨_, rfl, _, _, rfl, rfl, (by show (0 : Int) < 2; decide), rfl, _, rfl, iteI (fun e => ?_) (fun e => ⟨_, rfl, ?_⟩)⟩
      · have es : sgn i = 1 := by
          unfold sgn
          rw [if_pos (by have : ((0 : Int) + (i : Int)) % 2 = 0 := e; omega)]
        have hc : ((ch t i : Nat) : Int) * 1 = sgn i * ch t i := by rw [es]; omega
        have cab : (((ch t i : Nat) : Int) * 1).natAbs ≤ 2 ^ 50 := by
          rw [hc, Int.natAbs_mul, sgn_abs, Nat.one_mul, Int.natAbs_natCast]
          exact Nat.le_trans (ch_le t i) (Nat.pow_le_pow_right (by decide) (by omega))
        refine ⟨_, _, rfl, rfl, sm_mul (sm_ch (by omega)) (show (1 : Int).natAbs < 2 ^ 4000 from lt400 (i := 1) (by decide) (by decide)), R, rs[i], rs'[t - i], N, Lc t f g i, dd (t - i) i f, dd i (t - i) g, ((ch t i : Nat) : Int) * 1, rfl, hL, q1, q2, ne2 _ (List.getElem_mem hr1), ne3 _ (List.getElem_mem hr2), by omega, by omega, fun z hz => ⟨ok.smf _ _ (by omega) z hz, ?_⟩, ok.smg _ _ (by omega), lt400 cab (by decide), fun H4 s4 f4 => ⟨_, rfl, sH.trans s4, ?_⟩⟩
        · show (_ * z).natAbs < _
          rw [Int.natAbs_mul]
          exact lt400 (Nat.le_trans (Nat.mul_le_mul cab (Nat.le_trans (nm_mem hz) (ok.sf (t - i) i (by omega)))) (Nat.le_of_eq (Nat.pow_add 2 50 1700).symm)) (by decide)
        · rw [f4, hc]
          rfl
      · have es : sgn i = -1 := by
          unfold sgn
          rw [if_neg (by have : ¬ ((0 : Int) + (i : Int)) % 2 = 0 := e; omega)]
        have hc : ((ch t i : Nat) : Int) * -1 = sgn i * ch t i := by rw [es]; omega
        have cab : (((ch t i : Nat) : Int) * -1).natAbs ≤ 2 ^ 50 := by
          rw [hc, Int.natAbs_mul, sgn_abs, Nat.one_mul, Int.natAbs_natCast]
          exact Nat.le_trans (ch_le t i) (Nat.pow_le_pow_right (by decide) (by omega))
        refine ⟨_, _, rfl, rfl, sm_mul (sm_ch (by omega)) (show (-1 : Int).natAbs < 2 ^ 4000 from lt400 (i := 1) (by decide) (by decide)), R, rs[i], rs'[t - i], N, Lc t f g i, dd (t - i) i f, dd i (t - i) g, ((ch t i : Nat) : Int) * -1, rfl, hL, q1, q2, ne2 _ (List.getElem_mem hr1), ne3 _ (List.getElem_mem hr2), by omega, by omega, fun z hz => ⟨ok.smf _ _ (by omega) z hz, ?_⟩, ok.smg _ _ (by omega), lt400 cab (by decide), fun H4 s4 f4 => ⟨_, rfl, sH.trans s4, ?_⟩⟩
        · show (_ * z).natAbs < _
          rw [Int.natAbs_mul]
          exact lt400 (Nat.le_trans (Nat.mul_le_mul cab (Nat.le_trans (nm_mem hz) (ok.sf (t - i) i (by omega)))) (Nat.le_of_eq (Nat.pow_add 2 50 1700).symm)) (by decide)
        · rw [f4, hc]
          rfl
    · obtain ⟨y6, rfl, sH, hL⟩ := hP
      rw [show ((t : Int) + 1).toNat = t + 1 by omega] at hL
      refine ⟨_, rfl, .inl ⟨R, _, rfl, SqL.of hL, fun p np => q p _ (fun d o e => ?_) ?_⟩⟩
      · exact same_upd0 np _ _ (sH _ _ (nHR d o e) ((s01.trans (s2.trans s3)) _ _ e))
      · rw [upd_same, tab_tb, hN, L_tab ok.lf ok.lg]
def spReqForm (C : Addr) : Sp := fun vs H Q _ => ∃ (a : Addr) (l : List Int), vs = [.ref a] ∧ Fo C H a l ∧ Q .non H
theorem ok_require_form (T : Facts K mg) : FnOk P w K mg base CX0 1 T.f_require_form T.fd_require_form ["value"] (spReqForm T.C_Form) := by
  refine T.F_require_form.ok sc_require_form (fun vs H Q E h => ?_) (fun cdv A outer s H vs Q E hr h => ?_)
  · obtain ⟨a, l, rfl, _⟩ := h
    rfl
  · obtain ⟨a, l, rfl, fa, q⟩ := h
    obtain ⟨dx, t, ha, ht⟩ := fa.slt
    refine ⟨_, (PSs.nox (pss_one (ps_if (pt_not (pt_val (pe_callB (call_isiF T.C_Form) (by rfl) T.z_isinstance (by decide +kernel) (pa_cons (pv 0) (pa_cons (pe_glob (v := .ref T.C_Form) (by rfl) T.g_Form rfl) pa_nil)))))
      (pss_one ps_never)
      pss_nil))), ?_⟩
    exact ⟨_, rfl, isi_form (X := (cxOf CX0 P w K mg base N_require_form (Str.ofString "require_form") (defScope s_require_form) T.f_require_form cdv A outer s H E).nox) T.oc_Form ha ⟨true, rfl, iteF q⟩⟩
end
end K40

set_option Elab.async false
set_option linter.all false
set_option maxRecDepth 100000
set_option maxHeartbeats 4000000
namespace K40
open PySem PySem.Spec PyProof.Rows L2 StX RZ MyR SlX OwnR OwnF EnumT
theorem L_changed_list {a b c e : Int} {t : Nat} {f g : List Int} (hf : t + 1 ≤ f.length) (hg : t + 1 ≤ g.length) :
    L t (changed [a, b] [c, e] f) (changed [a, b] [c, e] g) = (changed [a, b] [c, e] (L t f g)).map fun x => x * (a * e - b * c) ^ t := by
  have l1 := changed_len (X := [a, b]) (Y := [c, e]) rfl rfl (ne_of2 (show 1 ≤ f.length by omega))
  have l2 := changed_len (X := [a, b]) (Y := [c, e]) rfl rfl (ne_of2 (show 1 ≤ g.length by omega))
  have l3 := L_len t f g hf hg
  have n3 : L t f g ≠ [] := ne_of2 (by omega)
  have l4 := changed_len (X := [a, b]) (Y := [c, e]) rfl rfl n3
  rw [map_mul_comm]
  refine ev_inj (by rw [map_len, L_len t _ _ (by omega) (by omega), l1, l2, l4, l3]) fun x y => ?_
  rw [L_changed x y t f g hf hg, ev_map, ev_changed rfl rfl n3, ev2, ev2]
section
variable {P : Program} {w : World} {K : PySem.W.Frag} {mg : Str → Option Value} {base : Heap}
theorem ok_law_choose (T : Facts K mg) : FnOk P w K mg base CX0 1 T.f_law_choose T.fd_law_choose ["_law_many", "_law_few"] spLots := by
  refine T.F_law_choose.ok sc_law_choose (fun vs H Q E h => ?_) (fun cdv A outer s H vs Q E hr h => ?_)
  · obtain ⟨n, k, rfl, _⟩ := h
    rfl
  · obtain ⟨n, k, rfl, hk, hn, q⟩ := h
    refine ⟨_, (PSs.nox (pss_cons (ps_set (i := 2) sc_law_choose.nd rfl (.inl rfl) pe_int)
    (pss_cons (ps_for PassesOwn.never (by rfl) (pi_range1 (by rfl) T.z_range (pa_cons (pv 1) pa_nil)) (pg_name (i := 3) sc_law_choose.nd rfl (.inl rfl))
      (pss_one (ps_set (i := 2) sc_law_choose.nd rfl (.inl rfl) (pe_op op_fdivZ (pe_op op_mulW (pv 2) (pe_op op_sub (pv 0) (pv 3))) (pe_op op_add (pv 3) pe_int)))))
    (pss_one (ps_ret (pv 2)))))), ?_⟩
    refine ⟨_, rfl, k, rfl, by omega, by omega, for_range (n := (k : Int).toNat) (fun i σ H' => ∃ y3, σ = [some (.int n), some (.int k), some (.int (ch n i)), y3] ∧ H' = H) ⟨none, by rw [ch_zero]; rfl, rfl⟩ (fun i σ H' hi hP => ?_) (fun σ H' hP => ?_)⟩
    · obtain ⟨y3, rfl, rfl⟩ := hP
      have e := ch_mul n i
      have hi1 : (0 : Int) + (i : Int) + 1 ≠ 0 := by omega
      refine ⟨_, rfl, _, rfl, _, rfl, _, _, rfl, rfl, _, _, rfl, rfl, sm_mul (sm_ch hn) (Nat.lt_of_le_of_lt (show ((n : Int) - (0 + (i : Int))).natAbs ≤ 50 by omega) (Nat.lt_of_lt_of_le (show 50 < 2 ^ 7 by decide) (Nat.pow_le_pow_right (by decide) (by decide)))), _, rfl, _, _, rfl, rfl, _, _, rfl, rfl, ⟨hi1, Nat.lt_trans (PySem.Flt.log2_lt_of (k := 10) (by decide) (by show ((0 : Int) + (i : Int) + 1).natAbs < 2 ^ 10; omega)) (by decide)⟩, some (.int (0 + (i : Int))), ?_, rfl⟩
      have e2 : (((ch n i : Nat) : Int) * ((n : Int) - (0 + (i : Int)))).fdiv (0 + (i : Int) + 1) = ((ch n (i + 1) : Nat) : Int) := by
        rw [Int.zero_add, ← e, Int.mul_fdiv_cancel _ (by omega)]
      show [some (V.int n), some (V.int k), some (V.int ((((ch n i : Nat) : Int) * ((n : Int) - (0 + (i : Int)))).fdiv (0 + (i : Int) + 1))), _] = _
      rw [e2]
    · obtain ⟨y3, rfl, rfl⟩ := hP
      rw [Int.toNat_natCast]
      exact ⟨_, rfl, q⟩
def spRaised : Sp := fun vs H Q _ => ∃ (c : Int) (n : Nat), vs = [.int c, .int n] ∧ (∀ i, i ≤ n → sm (c ^ i)) ∧ sm c ∧ n ≤ 100 ∧ Q (.int (c ^ n)) H
theorem ok_law_raised (T : Facts K mg) : FnOk P w K mg base CX0 1 T.f_law_raised T.fd_law_raised ["_law_number", "_law_times"] spRaised := by
  refine T.F_law_raised.ok sc_law_raised (fun vs H Q E h => ?_) (fun cdv A outer s H vs Q E hr h => ?_)
  · obtain ⟨c, n, rfl, _⟩ := h
    rfl
  · obtain ⟨c, n, rfl, hs, hc, hn, q⟩ := h
    refine ⟨_, (PSs.nox (pss_cons (ps_set (i := 2) sc_law_raised.nd rfl (.inl rfl) pe_int)
    (pss_cons (ps_for PassesOwn.never (by rfl) (pi_range1 (by rfl) T.z_range (pa_cons (pv 1) pa_nil)) (pg_name (i := 3) sc_law_raised.nd rfl (.inl rfl))
      (pss_one (ps_set (i := 2) sc_law_raised.nd rfl (.inl rfl) (pe_op op_mulW (pv 2) (pv 0)))))
    (pss_one (ps_ret (pv 2)))))), ?_⟩
    refine ⟨_, rfl, n, rfl, by omega, by omega, for_range (n := (n : Int).toNat) (fun i σ H' => ∃ y3, σ = [some (.int c), some (.int n), some (.int (c ^ i)), y3] ∧ H' = H) ⟨none, by rw [Int.pow_zero]; rfl, rfl⟩ (fun i σ H' hi hP => ?_) (fun σ H' hP => ?_)⟩
    · obtain ⟨y3, rfl, rfl⟩ := hP
      refine ⟨_, rfl, _, rfl, _, _, rfl, rfl, sm_mul (hs i (by omega)) hc, some (.int (0 + (i : Int))), ?_, rfl⟩
      rw [Int.pow_succ]
      rfl
    · obtain ⟨y3, rfl, rfl⟩ := hP
      rw [Int.toNat_natCast]
      exact ⟨_, rfl, q⟩
theorem ok_law_laid (T : Facts K mg) : FnOk P w K mg base CX0 3 T.f_law_laid T.fd_law_laid ["_law_one", "_law_other", "_law_times"] spLaidIn := by
  have G_law_choose := ok_law_choose (P := P) (w := w) (base := base) T
  have G_law_derived := ok_law_derived (P := P) (w := w) (base := base) T
  have G_law_product := ok_law_product (P := P) (w := w) (base := base) T
  have G_law_plus := ok_law_plus (P := P) (w := w) (base := base) T
  have G_law_scaled := ok_law_scaled (P := P) (w := w) (base := base) T
  refine T.F_law_laid.ok sc_law_laid (fun vs H Q E h => ?_) (fun cdv A outer s H vs Q E hr h => ?_)
  · obtain ⟨a, b, f, g, t, rfl, _⟩ := h
    rfl
  · obtain ⟨a, b, f, g, t, rfl, ha, hb, ok, q⟩ := h
    have lf := ok.lf
    have lg := ok.lg
    have mf := ok.mf
    have mg' := ok.mg
    refine ⟨_, (PSs.nox (pss_cons (ps_set (i := 3) sc_law_laid.nd rfl (.inl rfl) (pe_tupleOf (by rfl) T.z_tuple (pe_lc (own := [("_law_place", 4)]) (g := (gName 4)) (tt := tYes) (by rfl) sc_law_laid.nd (pi_range1 (by rfl) T.z_range (pa_cons (pe_op op_sub (pe_op op_sub (pe_op op_add (pe_callB call_len_seq (by rfl) T.z_len (by decide +kernel) (pa_cons (pv 0) pa_nil)) (pe_callB call_len_seq (by rfl) T.z_len (by decide +kernel) (pa_cons (pv 1) pa_nil))) pe_int) (pe_op op_mulW pe_int (pv 2))) pa_nil)) (blkOk_by (N := N_law_laid) (sc := defScope s_law_laid) (by decide +kernel)) (fun _ _ _ _ _ => (pg_name (i := 4) sc_law_laid.nd rfl (.inl rfl))) (fun _ _ _ _ _ => pts_nil) (fun _ _ _ _ _ => pe_int))))
    (pss_cons (ps_for PassesOwn.never (by rfl) (pi_range1 (by rfl) T.z_range (pa_cons (pe_op op_add (pv 2) pe_int) pa_nil)) (pg_name (i := 5) sc_law_laid.nd rfl (.inl rfl))
      (pss_cons (ps_set (i := 6) sc_law_laid.nd rfl (.inl rfl) (pe_call G_law_product (hr.mono (by decide)) (by rfl) T.g_law_product T.F_law_product.kp T.b_law_product .nil pass0 (pa_cons (pe_call G_law_derived hr (by rfl) T.g_law_derived T.F_law_derived.kp T.b_law_derived .nil pass0 (pa_cons (pv 0) (pa_cons (pe_op op_sub (pv 2) (pv 5)) (pa_cons (pv 5) pa_nil)))) (pa_cons (pe_call G_law_derived hr (by rfl) T.g_law_derived T.F_law_derived.kp T.b_law_derived .nil pass0 (pa_cons (pv 1) (pa_cons (pv 5) (pa_cons (pe_op op_sub (pv 2) (pv 5)) pa_nil)))) pa_nil))))
      (pss_cons (ps_set (i := 7) sc_law_laid.nd rfl (.inl rfl) (pe_call G_law_choose (hr.mono (by decide)) (by rfl) T.g_law_choose T.F_law_choose.kp T.b_law_choose .nil pass0 (pa_cons (pv 2) (pa_cons (pv 5) pa_nil))))
      (pss_one (ps_set (i := 3) sc_law_laid.nd rfl (.inl rfl) (pe_call G_law_plus (hr.mono (by decide)) (by rfl) T.g_law_plus T.F_law_plus.kp T.b_law_plus .nil pass0 (pa_cons (pv 3) (pa_cons (pe_call G_law_scaled (hr.mono (by decide)) (by rfl) T.g_law_scaled T.F_law_scaled.kp T.b_law_scaled .nil pass0 (pa_cons (pv 6) (pa_cons (pe_ifExp (pt_cmpR op_eq (pe_op op_mod (pv 5) pe_int) pe_int (nomark _)) (pv 7) (pe_op op_sub pe_int (pv 7))) pa_nil))) pa_nil))))))))
    (pss_one (ps_ret (pv 3)))))), ?_⟩
    refine ⟨_, rfl, a, _, rfl, .inr (SqT.of ha), _, rfl, b, _, rfl, .inr (SqT.of hb), ?_⟩
    rw [List.length_map, List.length_map]
    refine ⟨_, _, rfl, rfl, _, _, rfl, rfl, _, rfl, _, _, rfl, rfl, sm_mul (show sm 2 by show (2 : Nat) < 2 ^ 4000; exact lt400 (i := 1) (by decide) (by decide)) (sm_le (n := 100) (show ((t : Nat) : Int).natAbs ≤ 100 by omega) (by decide)), _, _, rfl, rfl, ?_⟩
    obtain ⟨N, hN⟩ : ∃ N, N = f.length + g.length - 1 - 2 * t := ⟨_, rfl⟩
    have eN : ((f.length : Int) + (g.length : Int) - 1 - 2 * (t : Int)) = (N : Int) := by omega
    dsimp only []
    rw [eN]
    refine ⟨N, rfl, by omega, by omega, fun D hD => lc_range (n := (N : Int).toNat) (fun j H' => H' = upd H D (.lst (tab j fun _ => 0))) rfl (fun j H' hj hP => ?_) (fun H' hP => ?_)⟩
    · subst hP
      refine ⟨rfl, _, upd_same, by rw [tab_len]; exact small1000 (by omega), ?_⟩
      rw [upd_upd, ← tab_snoc]
    · subst hP
      rw [Int.toNat_natCast, tab_tb]
      refine .inl ⟨D, _, rfl, SqL.of upd_same, fun p0 n0 => ?_⟩
      have sD := same_upd0 (o := .lst ((tb N fun _ => (0 : Int)).map V.int)) hD
      refine gen_upd _ p0 (tp (tb N fun _ => 0)) n0 fun H1 s1 f1 => ?_
      have s01 := sD.trans s1
      refine ⟨_, rfl, _, _, rfl, rfl, _, rfl, by omega, by omega, for_range (n := ((t : Int) + 1).toNat) (fun i σ H' => ∃ r y4 y5 y6 y7, σ = [some (.ref a), some (.ref b), some (.int t), some (.ref r), y4, y5, y6, y7] ∧ Same H H' ∧ H' r = some (tp (tb N (Lc t f g i)))) ⟨p0, none, none, none, none, rfl, s01, f1⟩ (fun i σ H' hi hP => ?_) (fun σ H' hP => ?_)⟩
      · obtain ⟨r, y4, y5, y6, y7, rfl, sH, hr2⟩ := hP
        have hi2 : i ≤ t := by omega
        have ei : (0 : Int) + (i : Int) = ((i : Nat) : Int) := by omega
        have et : (t : Int) - (0 + (i : Int)) = ((t - i : Nat) : Int) := by omega
        have l1 := dd_len (t - i) i f
        have l2 := dd_len i (t - i) g
        have of_ : DdOk (t - i) i f := ⟨by omega, by omega, fun u hu z hz => ok.smf u 0 (by omega) z hz, fun u hu z hz => ok.smf (t - i) u (by omega) z hz⟩
        have og : DdOk i (t - i) g := ⟨by omega, by omega, fun u hu z hz => ok.smg u 0 (by omega) z hz, fun u hu z hz => ok.smg i u (by omega) z hz⟩
        have n1 : dd (t - i) i f ≠ [] := ne_of2 (by omega)
        have n2 : dd i (t - i) g ≠ [] := ne_of2 (by omega)
        refine ⟨_, rfl, _, rfl, _, rfl, _, _, rfl, rfl, _, rfl, a, f, t - i, i, ?_, sH _ _ ha, of_, fun p3 H3 s3 f3 => ?_⟩
        · show [V.ref a, V.int ((t : Int) - (0 + (i : Int))), V.int (0 + (i : Int))] = _
          rw [et, ei]
        refine ⟨_, rfl, _, rfl, _, rfl, _, rfl, _, _, rfl, rfl, b, g, i, t - i, ?_, (sH.trans s3) _ _ hb, og, fun p4 H4 s4 f4 => ?_⟩
        · show [V.ref b, V.int (0 + (i : Int)), V.int ((t : Int) - (0 + (i : Int)))] = _
          rw [et, ei]
        refine ⟨p3, p4, _, _, rfl, s4 _ _ f3, f4, n1, n2, by omega, by omega, ok.smf _ _ (by omega), ok.smg _ _ (by omega), fun p5 H5 s5 _ f5 => ?_⟩
        refine ⟨_, rfl, _, rfl, t, i, by rw [ei]; rfl, hi2, by omega, ?_⟩
        have lm : (ml (dd (t - i) i f) (dd i (t - i) g)).length = N := by rw [ml_len]; omega
        have sm5 : ∀ z ∈ ml (dd (t - i) i f) (dd i (t - i) g), sm z := fun z hz => lt400 (Nat.le_trans (nm_mem hz) (Nat.le_trans (nm_ml _ _) (Nat.le_trans (Nat.mul_le_mul (ok.sf (t - i) i (by omega)) (ok.sg i (t - i) (by omega))) (Nat.le_of_eq (Nat.pow_add 2 1700 1700).symm)))) (by decide)
        have t5 := (s3.trans s4).trans s5
        have fin : ∀ c : Int, c = sgn i * ch t i → ∀ p6 H6, Same H5 H6 → H6 p6 = some (tp ((ml (dd (t - i) i f) (dd i (t - i) g)).map (c * ·))) → H6 r = some (tp (tb N (Lc t f g i))) ∧ (tb N (Lc t f g i)).length = ((ml (dd (t - i) i f) (dd i (t - i) g)).map (c * ·)).length ∧ zs 1 (tb N (Lc t f g i)) ((ml (dd (t - i) i f) (dd i (t - i) g)).map (c * ·)) = tb N (Lc t f g (i + 1)) := fun c hc p6 H6 s6 f6 => by
          have hlen : (tb N (Lc t f g i)).length = ((ml (dd (t - i) i f) (dd i (t - i) g)).map (c * ·)).length := by rw [tb_len, List.length_map, lm]
          refine ⟨(t5.trans s6) _ _ hr2, hlen, co_inj (by rw [zs_len hlen, tb_len, tb_len]) fun k => ?_⟩
          rw [co_zs' 1 hlen, co_map, co_tb, co_tb, hc]
          by_cases hk : k < N
          · rw [if_pos hk, if_pos hk, co_ml n2]
            show _ = Lc t f g i k + sgn i * ch t i * cv (dd (t - i) i f) (co (dd i (t - i) g)) k
            omega
          · rw [if_neg hk, if_neg hk, co_far (by rw [lm]; omega)]
            omega
        have bc : sm ((ch t i : Nat) : Int) := sm_ch (by omega)
        have bc' : sm (0 - ((ch t i : Nat) : Int)) := by
          show (0 - ((ch t i : Nat) : Int)).natAbs < _
          rw [Int.zero_sub, Int.natAbs_neg]
          exact bc
        refine ⟨_, rfl, _, rfl, _, rfl, _, _, rfl, rfl, (by show (0 : Int) < 2; decide), rfl, _, rfl, iteI (fun e => ?_) (fun e => ?_)⟩
        · have es : ((ch t i : Nat) : Int) = sgn i * ch t i := by
            unfold sgn
            rw [if_pos (by have : ((0 : Int) + (i : Int)) % 2 = 0 := e; omega), Int.one_mul]
          refine ⟨_, rfl, p5, _, _, rfl, f5, by rw [lm]; omega, sm5, bc, fun p6 H6 s6 _ f6 => ?_⟩
          obtain ⟨g1, g2, g3⟩ := fin _ es p6 H6 s6 f6
          exact ⟨r, p6, _, _, rfl, g1, f6, g2, by rw [tb_len]; omega, fun p7 H7 s7 _ f7 => ⟨p7, _, _, _, _, rfl, sH.trans ((t5.trans s6).trans s7), by rw [f7, g3]⟩⟩
        · have es : 0 - ((ch t i : Nat) : Int) = sgn i * ch t i := by
            unfold sgn
            rw [if_neg (by have : ¬ ((0 : Int) + (i : Int)) % 2 = 0 := e; omega)]
            omega
          refine ⟨_, rfl, _, _, rfl, rfl, p5, _, _, rfl, f5, by rw [lm]; omega, sm5, bc', fun p6 H6 s6 _ f6 => ?_⟩
          obtain ⟨g1, g2, g3⟩ := fin _ es p6 H6 s6 f6
          exact ⟨r, p6, _, _, rfl, g1, f6, g2, by rw [tb_len]; omega, fun p7 H7 s7 _ f7 => ⟨p7, _, _, _, _, rfl, sH.trans ((t5.trans s6).trans s7), by rw [f7, g3]⟩⟩
      · obtain ⟨r, y4, y5, y6, y7, rfl, sH, hr2⟩ := hP
        rw [show ((t : Int) + 1).toNat = t + 1 by omega, hN, L_tab ok.lf ok.lg] at hr2
        exact ⟨_, rfl, q r H' sH hr2⟩
end
end K40

set_option Elab.async false
set_option linter.all false
set_option maxRecDepth 100000
set_option maxHeartbeats 4000000
namespace K40
open PySem PySem.Spec PyProof.Rows L2 StX RZ MyR SlX OwnR OwnF EnumT
/-! ### rows of layings -/
/-- a triple of a row list -/
structure RTr where
  a : Nat
  b : Nat
  t : Nat
def RTr.row (r : RTr) : List Int := [(r.a : Int), (r.b : Int), (r.t : Int)]
/-- the forms behind i triples -/
def fsn (f : List Int) (rows : List RTr) : Nat → List (List Int)
  | 0 => [f]
  | i + 1 => match rows[i]? with
    | some r => fsn f rows i ++ [L r.t ((fsn f rows i).getD r.a []) ((fsn f rows i).getD r.b [])]
    | none => fsn f rows i
theorem fsn_succ {f : List Int} {rows : List RTr} {i : Nat} {r : RTr} (h : rows[i]? = some r) : fsn f rows (i + 1) = fsn f rows i ++ [L r.t ((fsn f rows i).getD r.a []) ((fsn f rows i).getD r.b [])] := by
  show (match rows[i]? with
    | some r => fsn f rows i ++ [L r.t ((fsn f rows i).getD r.a []) ((fsn f rows i).getD r.b [])]
    | none => fsn f rows i) = _
  rw [h]
def szn (rows : List RTr) : Nat → List Nat
  | 0 => [1]
  | i + 1 => match rows[i]? with
    | some r => szn rows i ++ [(szn rows i).getD r.a 0 + (szn rows i).getD r.b 0]
    | none => szn rows i
theorem szn_succ {rows : List RTr} {i : Nat} {r : RTr} (h : rows[i]? = some r) : szn rows (i + 1) = szn rows i ++ [(szn rows i).getD r.a 0 + (szn rows i).getD r.b 0] := by
  show (match rows[i]? with
    | some r => szn rows i ++ [(szn rows i).getD r.a 0 + (szn rows i).getD r.b 0]
    | none => szn rows i) = _
  rw [h]
def wtn (rows : List RTr) : Nat → List Nat
  | 0 => [0]
  | i + 1 => match rows[i]? with
    | some r => wtn rows i ++ [(wtn rows i).getD r.a 0 + (wtn rows i).getD r.b 0 + r.t]
    | none => wtn rows i
theorem wtn_succ {rows : List RTr} {i : Nat} {r : RTr} (h : rows[i]? = some r) : wtn rows (i + 1) = wtn rows i ++ [(wtn rows i).getD r.a 0 + (wtn rows i).getD r.b 0 + r.t] := by
  show (match rows[i]? with
    | some r => wtn rows i ++ [(wtn rows i).getD r.a 0 + (wtn rows i).getD r.b 0 + r.t]
    | none => wtn rows i) = _
  rw [h]
/-- a triple that can be laid -/
structure OkR (fs : List (List Int)) (r : RTr) : Prop where
  a : r.t + 1 ≤ (fs.getD r.a []).length
  b : r.t + 1 ≤ (fs.getD r.b []).length
  s : (fs.getD r.a []).length + (fs.getD r.b []).length ≤ 42 + 2 * r.t
def Good (f : List Int) (rows : List RTr) (i : Nat) : Prop := ∀ j r, j < i → rows[j]? = some r → OkR (fsn f rows j) r
def BadAt (f : List Int) (rows : List RTr) (i : Nat) : Prop := Good f rows i ∧ ∃ r, rows[i]? = some r ∧ ¬ OkR (fsn f rows i) r
theorem Good.zero {f : List Int} {rows : List RTr} : Good f rows 0 := fun j r h => absurd h (Nat.not_lt_zero j)
theorem Good.succ {f : List Int} {rows : List RTr} {i : Nat} {r : RTr} (g : Good f rows i) (h : rows[i]? = some r) (o : OkR (fsn f rows i) r) : Good f rows (i + 1) := fun j r' hj hr => by
  by_cases e : j = i
  · subst e
    rw [h] at hr
    cases hr
    exact o
  · exact g j r' (by omega) hr
theorem BadAt.not_good {f : List Int} {rows : List RTr} {i n : Nat} (b : BadAt f rows i) (h : i < n) (g : Good f rows n) : False := by
  obtain ⟨_, r, e, o⟩ := b
  exact o (g i r h e)
theorem BadAt.inj {f : List Int} {rows : List RTr} {i j : Nat} (b : BadAt f rows i) (c : BadAt f rows j) : i = j := by
  rcases Nat.lt_trichotomy i j with h | h | h
  · exact (b.not_good h c.1).elim
  · exact h
  · exact (c.not_good h b.1).elim
theorem BadAt.lt {f : List Int} {rows : List RTr} {i : Nat} (b : BadAt f rows i) : i < rows.length := by
  obtain ⟨_, r, e, _⟩ := b
  exact (List.getElem?_eq_some_iff.mp e).1
/-- a row list whose sizes are at most 8 -/
structure Vr (rows : List RTr) : Prop where
  len : rows.length ≤ 20
  ix : ∀ (i : Nat) (r : RTr), rows[i]? = some r → r.a ≤ i ∧ r.b ≤ i
  sz : ∀ i, i ≤ rows.length → ∀ s ∈ szn rows i, s ≤ 24
  tm : ∀ r ∈ rows, r.t ≤ 24
theorem getD_left {α : Type} {l m : List α} {k : Nat} {d : α} (h : k < l.length) : (l ++ m).getD k d = l.getD k d := by
  rw [List.getD_eq_getElem?_getD, List.getD_eq_getElem?_getD, List.getElem?_append_left h]
theorem getD_last {α : Type} {l : List α} {x d : α} : (l ++ [x]).getD l.length d = x := by
  rw [List.getD_eq_getElem?_getD, List.getElem?_append_right (Nat.le_refl _)]
  simp
theorem fsn_len {f : List Int} {rows : List RTr} : ∀ i, i ≤ rows.length → (fsn f rows i).length = i + 1
  | 0, _ => rfl
  | i + 1, h => by
    have e : rows[i]? = some rows[i] := List.getElem?_eq_getElem (by omega)
    rw [fsn_succ e, List.length_append, fsn_len i (by omega)]
    rfl
theorem szn_len {rows : List RTr} : ∀ i, i ≤ rows.length → (szn rows i).length = i + 1
  | 0, _ => rfl
  | i + 1, h => by
    have e : rows[i]? = some rows[i] := List.getElem?_eq_getElem (by omega)
    rw [szn_succ e, List.length_append, szn_len i (by omega)]
    rfl
theorem wtn_len {rows : List RTr} : ∀ i, i ≤ rows.length → (wtn rows i).length = i + 1
  | 0, _ => rfl
  | i + 1, h => by
    have e : rows[i]? = some rows[i] := List.getElem?_eq_getElem (by omega)
    rw [wtn_succ e, List.length_append, wtn_len i (by omega)]
    rfl
/-! ### sizes of the rows' entries -/
theorem L_bdW : ∀ (t : Nat) {f g : List Int} {n m A B : Nat}, Bd f n A → Bd g m B → n ≤ 40 → m ≤ 40 → t ≤ n → t ≤ m → Bd (L t f g) (n + m - 2 * t) (2 ^ (13 * t) * (A * B))
  | 0, f, g, n, m, A, B, hf, hg, _, _, _, _ => by
    have := bd_ml hf hg
    rw [Nat.mul_zero, Nat.pow_zero, Nat.one_mul]
    exact this
  | t + 1, f, g, n, m, A, B, hf, hg, hn, hm, h1, h2 => by
    have lf := hf.len
    have lg := hg.len
    have bx : ∀ {l : List Int} {k C : Nat}, Bd l k C → k ≤ 40 → 1 ≤ k → Bd (dX l) (k - 1) (64 * C) := fun h hk h0 => ⟨by rw [dX_len, h.len]; omega, Nat.le_trans (nm_dX _) (Nat.mul_le_mul (by rw [h.len]; omega) h.nm)⟩
    have by_ : ∀ {l : List Int} {k C : Nat}, Bd l k C → k ≤ 40 → 1 ≤ k → Bd (dY l) (k - 1) (64 * C) := fun h hk h0 => ⟨by rw [dY_len, h.len]; omega, Nat.le_trans (nm_dY _) (Nat.mul_le_mul (by rw [h.len]; omega) h.nm)⟩
    have r1 := L_bdW t (bx hf hn (by omega)) (by_ hg hm (by omega)) (by omega) (by omega) (by omega) (by omega)
    have r2 := L_bdW t (by_ hf hn (by omega)) (bx hg hm (by omega)) (by omega) (by omega) (by omega) (by omega)
    have r3 := bd_zs' (-1) r1 r2
    rw [show n - 1 + (m - 1) - 2 * t = n + m - 2 * (t + 1) by omega] at r3
    refine r3.mono (Nat.le_of_eq ?_)
    rw [show 13 * (t + 1) = 13 * t + 13 by omega, Nat.pow_add]
    show _ + 1 * _ = _
    generalize 2 ^ (13 * t) = Z
    rw [show (2 : Nat) ^ 13 = 8192 by decide]
    grind
theorem dd_nmW {l : List Int} {n A i j t : Nat} (h : Bd l n A) (hn : n ≤ 40) (hij : i + j ≤ t) (ht : t ≤ 24) : nm (dd i j l) ≤ 2 ^ 144 * A := by
  have hl := h.len
  refine Nat.le_trans (nm_dd i j l (by omega)) (Nat.mul_le_mul ?_ h.nm)
  exact Nat.le_trans (Nat.pow_le_pow_left (show l.length ≤ 2 ^ 6 by omega) _) (Nat.le_trans (Nat.pow_le_pow_right (by decide) (show i + j ≤ 24 by omega)) (by decide))
/-- the k-th row behind i triples, its degree d -/
structure RowB (f : List Int) (rows : List RTr) (n β i k d : Nat) : Prop where
  bd : Bd ((fsn f rows i).getD k []) d (2 ^ (13 * (wtn rows i).getD k 0) * 2 ^ (β * (szn rows i).getD k 0))
  w : d + 2 * (wtn rows i).getD k 0 = (szn rows i).getD k 0 * n
  d40 : d ≤ 40
  s1 : 1 ≤ (szn rows i).getD k 0
  s8 : (szn rows i).getD k 0 ≤ 24
theorem rows_bd {f : List Int} {rows : List RTr} {n β : Nat} (hf : Bd f n (2 ^ β)) (hn : n ≤ 6) (v : Vr rows) : ∀ i, i ≤ rows.length → Good f rows i → ∀ k, k ≤ i → ∃ d, RowB f rows n β i k d
  | 0, _, _, k, hk => by
    have e : k = 0 := by omega
    subst e
    refine ⟨n, ?_, ?_, by omega, Nat.le_refl _, (by decide : 1 ≤ 24)⟩
    · show Bd f n (2 ^ (13 * 0) * 2 ^ (β * 1))
      rw [Nat.mul_zero, Nat.pow_zero, Nat.one_mul, Nat.mul_one]
      exact hf
    · show n + 2 * 0 = 1 * n
      omega
  | i + 1, hi, g, k, hk => by
    have e : rows[i]? = some rows[i] := List.getElem?_eq_getElem (by omega)
    have ih := rows_bd hf hn v i (by omega) (fun j r hj hr => g j r (by omega) hr)
    have l1 := fsn_len (f := f) (rows := rows) i (by omega)
    have l2 := szn_len (rows := rows) i (by omega)
    have l3 := wtn_len (rows := rows) i (by omega)
    generalize hr : rows[i] = r at e
    by_cases c : k < i + 1
    · obtain ⟨d, h⟩ := ih k (by omega)
      refine ⟨d, ?_⟩
      obtain ⟨h1, h2, h3, h4, h5⟩ := h
      refine ⟨?_, ?_, h3, ?_, ?_⟩
      · rw [fsn_succ e, szn_succ e, wtn_succ e, getD_left (by omega), getD_left (by omega), getD_left (by omega)]
        exact h1
      · rw [szn_succ e, wtn_succ e, getD_left (by omega), getD_left (by omega)]
        exact h2
      · rw [szn_succ e, getD_left (by omega)]
        exact h4
      · rw [szn_succ e, getD_left (by omega)]
        exact h5
    · have ek : k = i + 1 := by omega
      subst ek
      obtain ⟨ha, hb⟩ := v.ix i r e
      obtain ⟨d1, x1⟩ := ih r.a ha
      obtain ⟨d2, x2⟩ := ih r.b hb
      have ok := g i r (by omega) e
      have m1 := x1.bd.len
      have m2 := x2.bd.len
      have ok1 := ok.a
      have ok2 := ok.b
      have ok3 := ok.s
      rw [m1] at ok1 ok3
      rw [m2] at ok2 ok3
      have hsz : (szn rows (i + 1)).getD (i + 1) 0 ≤ 24 := v.sz (i + 1) hi _ (by
        rw [List.getD_eq_getElem?_getD, List.getElem?_eq_getElem (by rw [szn_len (i + 1) hi]; omega)]
        exact List.getElem_mem _)
      have E1 : (fsn f rows (i + 1)).getD (i + 1) [] = L r.t ((fsn f rows i).getD r.a []) ((fsn f rows i).getD r.b []) := by rw [fsn_succ e, ← l1, getD_last]
      have E2 : (szn rows (i + 1)).getD (i + 1) 0 = (szn rows i).getD r.a 0 + (szn rows i).getD r.b 0 := by rw [szn_succ e, ← l2, getD_last]
      have E3 : (wtn rows (i + 1)).getD (i + 1) 0 = (wtn rows i).getD r.a 0 + (wtn rows i).getD r.b 0 + r.t := by rw [wtn_succ e, ← l3, getD_last]
      have w1 := x1.w
      have w2 := x2.w
      have s1 := x1.s1
      refine ⟨d1 + d2 - 2 * r.t, ?_, ?_, by omega, ?_, hsz⟩
      · rw [E1, E2, E3]
        refine (L_bdW r.t x1.bd x2.bd x1.d40 x2.d40 (by omega) (by omega)).mono (Nat.le_of_eq ?_)
        rw [Nat.mul_add, Nat.mul_add, Nat.pow_add, Nat.pow_add, Nat.mul_add β, Nat.pow_add]
        generalize 2 ^ (13 * r.t) = Z
        generalize 2 ^ (13 * (wtn rows i).getD r.a 0) = A
        generalize 2 ^ (13 * (wtn rows i).getD r.b 0) = B
        generalize 2 ^ (β * (szn rows i).getD r.a 0) = C
        generalize 2 ^ (β * (szn rows i).getD r.b 0) = D
        grind
      · rw [E2, E3, Nat.add_mul]
        omega
      · rw [E2]
        omega
/-- what is asked of a laying of rows -/
theorem ldOk_rows {f : List Int} {rows : List RTr} {n β i : Nat} {r : RTr} (hf : Bd f n (2 ^ β)) (hβ : β ≤ 20) (hn : n ≤ 6) (v : Vr rows) (hi : i < rows.length) (g : Good f rows i) (e : rows[i]? = some r) (o : OkR (fsn f rows i) r) : LdOk r.t ((fsn f rows i).getD r.a []) ((fsn f rows i).getD r.b []) := by
  obtain ⟨ha, hb⟩ := v.ix i r e
  obtain ⟨d1, x1⟩ := rows_bd hf hn v i (by omega) g r.a ha
  obtain ⟨d2, x2⟩ := rows_bd hf hn v i (by omega) g r.b hb
  have m1 := x1.bd.len
  have m2 := x2.bd.len
  have ok1 := o.a
  have ok2 := o.b
  rw [m1] at ok1
  rw [m2] at ok2
  have d1' := x1.d40
  have d2' := x2.d40
  have w1 := x1.w
  have w2 := x2.w
  have z1 := x1.s8
  have z2 := x2.s8
  have hsz : (szn rows i).getD r.a 0 + (szn rows i).getD r.b 0 ≤ 24 := v.sz (i + 1) hi _ (by
    rw [szn_succ e]
    simp)
  have c1 : (szn rows i).getD r.a 0 * n ≤ 24 * 6 := Nat.mul_le_mul z1 hn
  have c2 : (szn rows i).getD r.b 0 * n ≤ 24 * 6 := Nat.mul_le_mul z2 hn
  have c3 : ((szn rows i).getD r.a 0 + (szn rows i).getD r.b 0) * n ≤ 24 * 6 := Nat.mul_le_mul hsz hn
  rw [Nat.add_mul] at c3
  have t24 : r.t ≤ 24 := v.tm r (List.mem_of_getElem? e)
  have key : ∀ {w s : Nat}, w ≤ 72 → s ≤ 24 → 2 ^ 144 * (2 ^ (13 * w) * 2 ^ (β * s)) ≤ 2 ^ 1700 := fun {w s} hw hs => by
    rw [← Nat.pow_add, ← Nat.pow_add]
    have : β * s ≤ 20 * 24 := Nat.mul_le_mul hβ hs
    exact Nat.pow_le_pow_right (by decide) (by omega)
  exact ⟨o.a, o.b, by omega, by omega, fun i j hij => Nat.le_trans (dd_nmW x1.bd d1' hij t24) (key (by omega) z1), fun i j hij => Nat.le_trans (dd_nmW x2.bd d2' hij t24) (key (by omega) z2)⟩
theorem row_sm {f : List Int} {rows : List RTr} {n β i k : Nat} (hf : Bd f n (2 ^ β)) (hβ : β ≤ 20) (hn : n ≤ 6) (v : Vr rows) (hi : i ≤ rows.length) (g : Good f rows i) (hk : k ≤ i) : ∃ d, d ≤ 40 ∧ Bd ((fsn f rows i).getD k []) d (2 ^ 1500) := by
  obtain ⟨d, x⟩ := rows_bd hf hn v i hi g k hk
  have c1 : (szn rows i).getD k 0 * n ≤ 24 * 6 := Nat.mul_le_mul x.s8 hn
  have w := x.w
  have c2 : β * (szn rows i).getD k 0 ≤ 20 * 24 := Nat.mul_le_mul hβ x.s8
  refine ⟨d, x.d40, x.bd.mono ?_⟩
  rw [← Nat.pow_add]
  exact Nat.pow_le_pow_right (by decide) (by omega)
/-! ### multiples, changes -/
theorem L_mul {t : Nat} {f g : List Int} (c d : Int) (hf : t + 1 ≤ f.length) (hg : t + 1 ≤ g.length) : L t (f.map (c * ·)) (g.map (d * ·)) = (L t f g).map (c * d * ·) := by
  refine ev_inj (by rw [map_len, L_len t _ _ (by rw [map_len]; omega) (by rw [map_len]; omega), map_len, map_len, L_len t f g hf hg]) fun x y => ?_
  rw [L_mapl c x y t f _ hf (by rw [map_len]; omega), L_mapr d x y t f g hf hg, ev_map, Int.mul_assoc]
theorem map_one (l : List Int) : l.map ((1 : Int) * ·) = l := by
  refine (List.map_congr_left fun x _ => Int.one_mul x).trans ?_
  exact List.map_id _
theorem map_map_mul (c d : Int) (l : List Int) : (l.map (d * ·)).map (c * ·) = l.map (c * d * ·) := by
  rw [List.map_map]
  exact List.map_congr_left fun x _ => (Int.mul_assoc c d x).symm
/-- rows of a form g that is led to f's by φ, up to a factor c for each row -/
theorem rows_led (f g : List Int) (rows : List RTr) (φ : List Int → List Int) (c : Nat → Int) (n : Nat)
    (h0 : g = (φ f).map (c 0 * ·)) (hlen : ∀ l, l ≠ [] → (φ l).length = l.length) (v : Vr rows)
    (hc : ∀ (i : Nat) (r : RTr), rows[i]? = some r → ∀ x y : List Int, r.t + 1 ≤ x.length → r.t + 1 ≤ y.length → (L r.t (φ x) (φ y)).map (c r.a * c r.b * ·) = (φ (L r.t x y)).map (c (i + 1) * ·)) :
    ∀ i, i ≤ rows.length → Good f rows i → Good g rows i ∧ ∀ k, k ≤ i → (fsn g rows i).getD k [] = (φ ((fsn f rows i).getD k [])).map (c k * ·)
  | 0, _, _ => ⟨Good.zero, fun k hk => by
    have e : k = 0 := by omega
    subst e
    exact h0⟩
  | i + 1, hi, gd => by
    have e : rows[i]? = some rows[i] := List.getElem?_eq_getElem (by omega)
    obtain ⟨g1, g2⟩ := rows_led f g rows φ c n h0 hlen v hc i (by omega) (fun j r hj hr => gd j r (by omega) hr)
    generalize hr : rows[i] = r at e
    have l1 := fsn_len (f := f) (rows := rows) i (by omega)
    have l2 := fsn_len (f := g) (rows := rows) i (by omega)
    obtain ⟨ha, hb⟩ := v.ix i r e
    have o := gd i r (by omega) e
    have la : ∀ k, k ≤ i → r.t + 1 ≤ ((fsn f rows i).getD k []).length → ((fsn g rows i).getD k []).length = ((fsn f rows i).getD k []).length := fun k hk h => by
      rw [g2 k hk, map_len, hlen _ (ne_of2 (by omega))]
    have o' : OkR (fsn g rows i) r := ⟨by rw [la _ ha o.a]; exact o.a, by rw [la _ hb o.b]; exact o.b, by rw [la _ ha o.a, la _ hb o.b]; exact o.s⟩
    refine ⟨g1.succ e o', fun k hk => ?_⟩
    rw [fsn_succ e, fsn_succ e]
    by_cases ck : k < i + 1
    · rw [getD_left (by omega), getD_left (by omega)]
      exact g2 k (by omega)
    · have ek : k = i + 1 := by omega
      subst ek
      have q1 : (fsn g rows i ++ [L r.t ((fsn g rows i).getD r.a []) ((fsn g rows i).getD r.b [])]).getD (i + 1) [] = L r.t ((fsn g rows i).getD r.a []) ((fsn g rows i).getD r.b []) := by
        rw [← l2]
        exact getD_last
      have q2 : (fsn f rows i ++ [L r.t ((fsn f rows i).getD r.a []) ((fsn f rows i).getD r.b [])]).getD (i + 1) [] = L r.t ((fsn f rows i).getD r.a []) ((fsn f rows i).getD r.b []) := by
        rw [← l1]
        exact getD_last
      rw [q1, q2, g2 _ ha, g2 _ hb, ← hc i r e _ _ o.a o.b]
      have na := o.a
      have nb := o.b
      exact L_mul _ _ (by rw [hlen _ (ne_of2 (by omega))]; exact na) (by rw [hlen _ (ne_of2 (by omega))]; exact nb)
end K40

set_option Elab.async false
set_option linter.all false
set_option maxRecDepth 100000
set_option maxHeartbeats 4000000
namespace K40
open PySem PySem.Spec PyProof.Rows L2 StX RZ MyR SlX OwnR OwnF EnumT
section
variable {P : Program} {w : World} {K : PySem.W.Frag} {mg : Str → Option Value} {base : Heap}
theorem tyx_of {K : PySem.W.Frag} {H : Hp} {a : Addr} {xs : List V} (h : SqT K H a xs) : TyX K H (.ref a) (.type "tuple") := by
  rcases h with (h | ⟨o, h⟩) | ⟨o, its, n, h1, h2, _⟩
  · exact .base (.tup h)
  · exact .fTuple h
  · exact .kTuple h1 h2
theorem sqt_same {K : PySem.W.Frag} {H H' : Hp} {a : Addr} {xs : List V} (h : SqT K H a xs) (s : Same H H') : SqT K H' a xs :=
  h.elim (fun h => .inl (h.elim (fun h => .inl (s _ _ h)) fun ⟨o, h⟩ => .inr ⟨o, s _ _ h⟩)) fun h => .inr h
def spAreShortK (K : PySem.W.Frag) : Sp := fun vs H Q _ => ∃ (t : Addr) (ns : List Int), vs = [.ref t] ∧ SqT K H t (ns.map V.int) ∧ ns.length ≤ 1000 ∧ (∀ x ∈ ns, Sho x) ∧ ∀ H', Same H H' → Q (.bl true) H'
theorem ok_are_shortK (T : Facts K mg) : FnOk P w K mg base CX0 3 T.f_are_short T.fd_are_short ["value"] (spAreShortK K) := by
  have G_is_short : FnOk P w K mg base CX0 2 T.f_is_short T.fd_is_short ["value"] spShort := ok_is_short T
  refine T.F_are_short.ok sc_are_short (fun vs H Q E h => ?_) (fun cdv A outer s H vs Q E hr h => ?_)
  · obtain ⟨t, ns, rfl, _⟩ := h
    rfl
  · obtain ⟨t, ns, rfl, ht, hl, hs, q⟩ := h
    refine ⟨_, (PSs.nox (pss_one (ps_ret (pe_and (pe_callB call_isi (by rfl) T.z_isinstance (by decide +kernel) (pa_cons (pv 0) (pa_cons (pe_bltn (v := .ty "tuple") (by rfl) T.z_tuple (by decide +kernel) rfl) pa_nil))) (pe_one (pe_callB (cr_all (by rfl)) (by rfl) T.z_all (by decide +kernel) (pa_cons (pe_lc (own := [("entry", 1)]) (g := (gName 1)) (tt := tYes) (by rfl) sc_are_short.nd (pi_tup (pv 0)) (blkOk_by (N := N_are_short) (sc := defScope s_are_short) (by decide +kernel)) (fun _ _ _ _ _ => (pg_name (i := 1) sc_are_short.nd rfl (.inl rfl))) (fun _ _ _ _ _ => pts_nil) (fun _ _ _ _ _ => (pe_call G_is_short hr (by rfl) T.g_is_short T.F_is_short.kp T.b_is_short .nil pass0 (pa_cons (pv 1) pa_nil)))) pa_nil))))))), ?_⟩
    refine ⟨_, rfl, .ref t, .ty "tuple", .type "tuple", .type "tuple", true, rfl, .ty "tuple", tyx_of ht, kit_ty (show kitB "tuple" "tuple" = some true by decide +kernel), true, rfl, iteT ?_⟩
    refine ⟨_, rfl, t, rfl, ⟨_, ht⟩, fun D hD => lc_tup (xs := ns.map V.int) (fun i H' => H' = upd H D (.lst (List.replicate i (V.bl true)))) rfl (fun i H' hi hP => ?_) (fun i x H' hi hP => ?_) (fun H' hP => ?_)⟩
    · rw [hP]
      exact sqt_same ht (same_upd0 hD)
    · subst hP
      rw [List.getElem?_map] at hi
      obtain ⟨y, hy, rfl⟩ := Option.map_eq_some_iff.mp hi
      have hlt : i < ns.length := (List.getElem?_eq_some_iff.mp hy).1
      refine ⟨rfl, ⟨_, rfl, y, rfl, hs y (List.mem_of_getElem? hy), _, upd_same, ?_, ?_⟩⟩
      · rw [List.length_replicate]
        exact small1000 (by omega)
      · rw [upd_upd, List.replicate_succ']
    · subst hP
      rw [List.length_map]
      refine ⟨D, List.replicate ns.length true, rfl, SqL.of (by rw [upd_same, List.map_replicate]), ?_⟩
      have e : (List.replicate ns.length true).all id = true := by
        rw [List.all_eq_true]
        intro x hx
        rw [(List.mem_replicate.mp hx).2]
        rfl
      rw [e]
      exact q _ (same_upd0 hD)
def spTriple (K : PySem.W.Frag) : Sp := fun vs H Q _ => ∃ (a : Addr) (m : Nat) (r : RTr), vs = [.ref a, .int m] ∧ SqT K H a (r.row.map V.int) ∧ r.a ≤ m ∧ r.b ≤ m ∧ m ≤ 1000 ∧ r.t ≤ 1000 ∧ ∀ H', Same H H' → Q (.bl true) H'
theorem ok_is_row_triple (T : Facts K mg) : FnOk P w K mg base CX0 4 T.f_is_row_triple T.fd_is_row_triple ["value", "most"] (spTriple K) := by
  have G_are_short := ok_are_shortK (P := P) (w := w) (base := base) T
  refine T.F_is_row_triple.ok sc_is_row_triple (fun vs H Q E h => ?_) (fun cdv A outer s H vs Q E hr h => ?_)
  · obtain ⟨a, m, r, rfl, _⟩ := h
    rfl
  · obtain ⟨a, m, r, rfl, ha, h1, h2, hm, ht, q⟩ := h
    refine ⟨_, (PSs.nox (pss_cons (ps_if (pw_or (pt_not (pt_val (pe_call G_are_short hr (by rfl) T.g_are_short T.F_are_short.kp T.b_are_short .nil pass0 (pa_cons (pv 0) pa_nil)))) (pw_or1 (pt_cmpR op_ne (pe_callB call_len_seq (by rfl) T.z_len (by decide +kernel) (pa_cons (pv 0) pa_nil)) (pe_glob (v := .int 3) (by rfl) T.c_TRIPLE.choose_spec ⟨_, rfl⟩) (nomark _)))).pt
      (pss_one (ps_ret pe_bl))
      pss_nil)
    (pss_one (ps_ret (pe_and (pe_chain op_le op_le pe_int (pe_ix ix_tup (pv 0) pe_int (fun _ _ => rfl)) (pv 1)) (pe_and (pe_chain op_le op_le pe_int (pe_ix ix_tup (pv 0) pe_int (fun _ _ => rfl)) (pv 1)) (pe_one (pe_cmpR op_ge (pe_ix ix_tup (pv 0) pe_int (fun _ _ => rfl)) pe_int (nomark _))))))))), ?_⟩
    refine ⟨_, rfl, a, r.row, rfl, ha, (by show 3 ≤ 1000; decide), ?_, fun H1 s1 => ?_⟩
    · intro x hx
      simp only [RTr.row, List.mem_cons, List.not_mem_nil, or_false] at hx
      have : x.natAbs ≤ 1000 := by rcases hx with rfl | rfl | rfl <;> omega
      exact Nat.lt_of_le_of_lt this (by decide)
    have ha := sqt_same ha s1
    refine ⟨true, rfl, iteF ⟨_, rfl, a, _, rfl, .inr ha, rfl, _, rfl, iteF ?_⟩⟩
    refine ⟨_, rfl, a, _, 0, _, rfl, rfl, ha, atI_nat (j := 0) rfl, _, _, rfl, rfl, true, ?_, iteT ⟨_, rfl, _, _, rfl, rfl, ?_⟩⟩
    · show V.bl (decide ((0 : Int) ≤ (r.a : Int))) = _
      rw [decide_eq_true (Int.natCast_nonneg _)]
    · refine ⟨true, by show V.bl (decide ((r.a : Int) ≤ (m : Int))) = _; rw [decide_eq_true (by omega)], iteT ?_⟩
      refine ⟨_, rfl, a, _, 1, _, rfl, rfl, ha, atI_nat (j := 1) rfl, _, _, rfl, rfl, true, ?_, iteT ⟨_, rfl, _, _, rfl, rfl, ?_⟩⟩
      · show V.bl (decide ((0 : Int) ≤ (r.b : Int))) = _
        rw [decide_eq_true (Int.natCast_nonneg _)]
      · refine ⟨true, by show V.bl (decide ((r.b : Int) ≤ (m : Int))) = _; rw [decide_eq_true (by omega)], iteT ?_⟩
        refine ⟨_, rfl, a, _, 2, _, rfl, rfl, ha, atI_nat (j := 2) rfl, _, _, rfl, rfl, ?_⟩
        show Q (V.bl (decide ((0 : Int) ≤ (r.t : Int)))) H1
        rw [decide_eq_true (Int.natCast_nonneg _)]
        exact q H1 s1
/-- the rows at a -/
def Rws (K : PySem.W.Frag) (H : Hp) (a : Addr) (rows : List RTr) : Prop := ∃ rs : List Addr, rs.length = rows.length ∧ SqT K H a (rs.map V.ref) ∧ ∀ (i : Nat) (h : i < rs.length) (r : RTr), rows[i]? = some r → SqT K H rs[i] (r.row.map V.int)
theorem Rws.same {H H' : Hp} {a : Addr} {rows : List RTr} (h : Rws K H a rows) (s : Same H H') : Rws K H' a rows := by
  obtain ⟨rs, l, h1, h2⟩ := h
  exact ⟨rs, l, sqt_same h1 s, fun i hi r hr => sqt_same (h2 i hi r hr) s⟩
theorem iteNo {p : Prop} [Decidable p] {A B : Prop} (h : ¬ p) (b : B) : if decide p = true then A else B := by
  rw [if_neg (fun z => h (of_decide_eq_true z))]
  exact b
theorem iteYes {p : Prop} [Decidable p] {A B : Prop} (h : p) (b : A) : if decide p = true then A else B := by
  rw [if_pos (decide_eq_true h)]
  exact b
/-- what a list of ints in the heap holds -/
theorem co_getD {l : List Nat} {k : Nat} (h : k < l.length) : (l.map fun x : Nat => V.int (x : Int))[k]? = some (.int (l.getD k 0 : Nat)) := by
  rw [List.getElem?_map, List.getElem?_eq_getElem h, List.getD_eq_getElem?_getD, List.getElem?_eq_getElem h]
  rfl
def nl (l : List Nat) : HO := .lst (l.map fun x : Nat => V.int (x : Int))
def spRowList (K : PySem.W.Frag) : Sp := fun vs H Q _ => ∃ (a : Addr) (rows : List RTr), vs = [.ref a] ∧ Rws K H a rows ∧ Vr rows ∧ ∀ H', Same H H' → Q (.bl true) H'
theorem ok_is_row_list (T : Facts K mg) : FnOk P w K mg base CX0 5 T.f_is_row_list T.fd_is_row_list ["value"] (spRowList K) := by
  have G_is_row_triple := ok_is_row_triple (P := P) (w := w) (base := base) T
  refine T.F_is_row_list.ok sc_is_row_list (fun vs H Q E h => ?_) (fun cdv A outer s H vs Q E hr h => ?_)
  · obtain ⟨a, rows, rfl, _⟩ := h
    rfl
  · obtain ⟨a, rows, rfl, ⟨rs, lr, ha, hrow⟩, v, q⟩ := h
    refine ⟨_, (PSs.nox (pss_cons (ps_if (pw_or (pt_not (pt_val (pe_callB call_isi (by rfl) T.z_isinstance (by decide +kernel) (pa_cons (pv 0) (pa_cons (pe_bltn (v := .ty "tuple") (by rfl) T.z_tuple (by decide +kernel) rfl) pa_nil))))) (pw_or1 (pt_cmpR op_gt (pe_callB call_len_seq (by rfl) T.z_len (by decide +kernel) (pa_cons (pv 0) pa_nil)) (pe_glob (v := .int 24) (by rfl) T.c_MOST_ROWS.choose_spec ⟨_, rfl⟩) (nomark _)))).pt
      (pss_one (ps_ret pe_bl))
      pss_nil)
    (pss_cons (ps_set (i := 1) sc_is_row_list.nd rfl (.inl rfl) (pe_lst (pa_cons pe_int pa_nil)))
    (pss_cons (ps_for PassesOwn.never (by rfl) (pi_enumT (by rfl) T.z_enumerate (pa_cons (pv 0) pa_nil)) (pg_tup (by rfl) (pgs_cons (pg_name (i := 2) sc_is_row_list.nd rfl (.inl rfl)) (pgs_cons (pg_name (i := 3) sc_is_row_list.nd rfl (.inl rfl)) pgs_nil)))
      (pss_cons (ps_if (pt_not (pt_val (pe_call G_is_row_triple hr (by rfl) T.g_is_row_triple T.F_is_row_triple.kp T.b_is_row_triple .nil pass0 (pa_cons (pv 3) (pa_cons (pv 2) pa_nil)))))
        (pss_one (ps_ret pe_bl))
        pss_nil)
      (pss_one (ps_expr (pe_bm PySem.F.plainAttrs_list PySem.F.slot_list_append PySem.F.type_list_append mt_append (pv 1) (pa_cons (pe_op op_add (pe_ix ix_list (pv 1) (pe_ix ix_tup (pv 3) pe_int (fun _ _ => rfl)) (fun _ _ => rfl)) (pe_ix ix_list (pv 1) (pe_ix ix_tup (pv 3) pe_int (fun _ _ => rfl)) (fun _ _ => rfl))) pa_nil))))))
    (pss_one (ps_ret (pe_cmpR op_le (pe_callB (cr_max (by rfl)) (by rfl) T.z_max (by decide +kernel) (pa_cons (pv 1) pa_nil)) (pe_glob (v := .int 24) (by rfl) T.c_MOST_SIZE.choose_spec ⟨_, rfl⟩) (nomark _)))))))), ?_⟩
    refine ⟨_, rfl, .ref a, .ty "tuple", .type "tuple", .type "tuple", true, rfl, .ty "tuple", tyx_of ha, kit_ty (show kitB "tuple" "tuple" = some true by decide +kernel), true, rfl, iteF ?_⟩
    have hlen := v.len
    refine ⟨_, rfl, a, _, rfl, .inr ha, _, _, rfl, rfl, _, rfl, iteNo (by rw [List.length_map]; omega) ?_⟩
    have z1 : 1 ≤ sizeLine := by decide
    refine ⟨z1, fun D hD => gen_upd H D (nl (szn rows 0)) hD fun H1 s1 hL1 => ?_⟩
    have ha1 := sqt_same ha s1
    refine ⟨_, rfl, a, _, rfl, ha1, for_enumT (xs := rs.map V.ref) (fun i σ H' => ∃ y2 y3, σ = [some (.ref a), some (.ref D), y2, y3] ∧ Same H H' ∧ H' D = some (nl (szn rows i))) ⟨none, none, rfl, s1, hL1⟩ (fun i σ H' hP => ?_) (fun i x B σ H' hxi hP hB => ?_) (fun σ H' hP => ?_)⟩
    · obtain ⟨y2, y3, _, sH, _⟩ := hP
      exact sqt_same ha sH
    · obtain ⟨y2, y3, rfl, sH, hL⟩ := hP
      obtain ⟨hi2, hx⟩ := List.getElem?_eq_some_iff.mp hxi
      rw [List.length_map] at hi2
      rw [List.getElem_map] at hx
      subst hx
      refine ⟨B, _, rfl, SqT.of upd_same, rfl, _, _, rfl, _, _, rfl, rfl, ?_⟩
      refine gen_upd H' B _ hB (fun H2 s2 _ => ?_)
      have sH2 := sH.trans s2
      have hL2 := s2 _ _ hL
      have e : rows[i]? = some rows[i] := List.getElem?_eq_getElem (by omega)
      generalize rows[i] = r at e
      obtain ⟨i1, i2⟩ := v.ix i r e
      have hr2 := sqt_same (hrow i hi2 r e) sH2
      have hln := szn_len (rows := rows) i (by omega)
      refine ⟨_, rfl, _, rfl, rs[i], i, r, rfl, hr2, i1, i2, by omega, Nat.le_trans (v.tm r (List.mem_of_getElem? e)) (by decide), fun H3 s3 => ⟨true, rfl, iteF ?_⟩⟩
      have hr3 := sqt_same hr2 s3
      have hL3 := s3 _ _ hL2
      refine ⟨_, rfl, .inl ⟨rfl, _, SqL.of hL3⟩, _, rfl, _, rfl, rs[i], _, 0, _, rfl, rfl, hr3, atI_nat (j := 0) rfl, D, _, _, _, rfl, rfl, SqL.of hL3, atI_nat (j := r.a) (co_getD (by omega)), ?_⟩
      refine ⟨_, rfl, _, rfl, rs[i], _, 1, _, rfl, rfl, hr3, atI_nat (j := 1) rfl, D, _, _, _, rfl, rfl, SqL.of hL3, atI_nat (j := r.b) (co_getD (by omega)), _, _, rfl, rfl, D, _, _, rfl, rfl, hL3, ?_, some (.int (i : Int)), some (.ref rs[i]), rfl, fun b o e2 => ?_, ?_⟩
      · rw [List.length_map]
        exact small1000 (by omega)
      · rw [upd_ne (ne_of_none e2 hD)]
        exact s3 _ _ (sH2 _ _ e2)
      · rw [upd_same, szn_succ e]
        unfold nl
        rw [List.map_append]
        rfl
    · obtain ⟨y2, y3, rfl, sH, hL⟩ := hP
      rw [List.length_map, lr] at hL
      have hln := szn_len (rows := rows) rows.length (Nat.le_refl _)
      refine ⟨_, rfl, D, (szn rows rows.length).map fun x : Nat => (x : Int), rfl, SqL.of ?_, by rw [List.length_map]; omega, fun m hm _ => ?_⟩
      · rw [hL, List.map_map]
        rfl
      obtain ⟨s, hs, rfl⟩ := List.mem_map.mp hm
      have h8 := v.sz rows.length (Nat.le_refl _) s hs
      refine ⟨_, _, rfl, rfl, ?_⟩
      show Q (V.bl (decide ((s : Int) ≤ 24))) H'
      rw [decide_eq_true (by omega)]
      exact q _ sH
def spReqRows (K : PySem.W.Frag) : Sp := fun vs H Q _ => ∃ (a : Addr) (rows : List RTr), vs = [.ref a] ∧ Rws K H a rows ∧ Vr rows ∧ ∀ H', Same H H' → Q .non H'
theorem ok_require_row_list (T : Facts K mg) : FnOk P w K mg base CX0 6 T.f_require_row_list T.fd_require_row_list ["value"] (spReqRows K) := by
  have G_is_row_list := ok_is_row_list (P := P) (w := w) (base := base) T
  refine T.F_require_row_list.ok sc_require_row_list (fun vs H Q E h => ?_) (fun cdv A outer s H vs Q E hr h => ?_)
  · obtain ⟨a, rows, rfl, _⟩ := h
    rfl
  · obtain ⟨a, rows, rfl, ha, v, q⟩ := h
    refine ⟨_, (PSs.nox (pss_one (ps_if (pt_not (pt_val (pe_call G_is_row_list hr (by rfl) T.g_is_row_list T.F_is_row_list.kp T.b_is_row_list .nil pass0 (pa_cons (pv 0) pa_nil))))
      (pss_one ps_never)
      pss_nil))), ?_⟩
    exact ⟨_, rfl, a, rows, rfl, ha, v, fun H' s1 => ⟨true, rfl, iteF (q _ s1)⟩⟩
end
end K40

set_option Elab.async false
set_option linter.all false
set_option maxRecDepth 100000
set_option maxHeartbeats 4000000
namespace K40
open PySem PySem.Spec PyProof.Rows L2 StX RZ MyR SlX OwnR OwnF EnumT
section
variable {P : Program} {w : World} {K : PySem.W.Frag} {mg : Str → Option Value} {base : Heap}
theorem iteD {p : Prop} [Decidable p] {A B : Prop} (h1 : p → A) (h2 : ¬ p → B) : if decide p = true then A else B := by
  by_cases h : p
  · exact iteYes h (h1 h)
  · exact iteNo h (h2 h)
/-- the error's dict at d: its reason -/
def Rsn (H : Hp) (d : Addr) (i : Nat) : Prop := ∃ p : Addr, H d = some (.xd [(PySem.SupX.ff, .ref p)]) ∧ H p = some (.tup [.str "row", .int (i : Int)])
/-- forms' rows behind all triples, at addresses -/
def Fs (H : Hp) (ps : List Addr) (ls : List (List Int)) : Prop := ps.length = ls.length ∧ ∀ (k : Nat) (h : k < ps.length), H ps[k] = some (tp (ls.getD k []))
theorem Fs.same {H H' : Hp} {ps : List Addr} {ls : List (List Int)} (h : Fs H ps ls) (s : Same H H') : Fs H' ps ls := ⟨h.1, fun k hk => s _ _ (h.2 k hk)⟩
theorem Fs.snoc {H H' : Hp} {ps : List Addr} {ls : List (List Int)} {p : Addr} {l : List Int} (h : Fs H ps ls) (s : ∀ (a : Addr) (l : List Int), H a = some (tp l) → H' a = some (tp l)) (hp : H' p = some (tp l)) : Fs H' (ps ++ [p]) (ls ++ [l]) := by
  obtain ⟨e, h2⟩ := h
  refine ⟨by rw [List.length_append, List.length_append, e]; rfl, fun k hk => ?_⟩
  by_cases c : k < ps.length
  · rw [List.getElem_append_left c, getD_left (by omega)]
    exact s _ _ (h2 k c)
  · have ek : k = ps.length := by rw [List.length_append] at hk; simp at hk; omega
    subst ek
    rw [show (ps ++ [p])[ps.length] = p by rw [List.getElem_append_right (Nat.le_refl _)]; simp, hp, e, getD_last]
def spRunIn (K : PySem.W.Frag) (C : Addr) : Sp := fun vs H Q E => ∃ (a b : Addr) (rows : List RTr) (f : List Int) (n β : Nat), vs = [.ref a, .ref b] ∧ Rws K H a rows ∧ Vr rows ∧ H b = some (tp f) ∧ Bd f n (2 ^ β) ∧ β ≤ 20 ∧ n ≤ 6 ∧
  (∀ i, BadAt f rows i → ∀ d H', Same H H' → Rsn H' d i → E (.ref C) (some d) H') ∧
  (Good f rows rows.length → ∀ D H' (ps : List Addr), Same H H' → H' D = some (.lst (ps.map V.ref)) → Fs H' ps (fsn f rows rows.length) → Q (.ref D) H')
theorem ok_run_in (T : Facts K mg) (SP : PySem.SupX.SupP P "/claim/cut.py") : FnOk P w K mg base (L2.CX P w) 4 T.f_run_in T.fd_run_in ["rows", "entries"] (spRunIn K T.C_Refused) := by
  have G_laid_in := ok_laid_in (P := P) (w := w) (base := base) T
  refine T.F_run_in.ok (CX := L2.CX P w) sc_run_in (fun vs H Q E h => ?_) (fun cdv A outer s H vs Q E hr h => ?_)
  · obtain ⟨a, b, rows, f, n, β, rfl, _⟩ := h
    rfl
  · obtain ⟨a, b, rows, f, n, β, rfl, ⟨rs, lr, ha, hrow⟩, v, hb, bf, hβ, hn, qb, qg⟩ := h
    refine ⟨_, (pss_cons (ps_set (i := 2) sc_run_in.nd rfl (.inl rfl) (pe_lst (pa_cons (pv 1) pa_nil)))
    (pss_cons (ps_for (passes_of rfl) (by rfl) (pi_enumT (by rfl) T.z_enumerate (pa_cons (pv 0) pa_nil)) (pg_tup (by rfl) (pgs_cons (pg_name (i := 3) sc_run_in.nd rfl (.inl rfl)) (pgs_cons (pg_tup (by rfl) (pgs_cons (pg_name (i := 4) sc_run_in.nd rfl (.inl rfl)) (pgs_cons (pg_name (i := 5) sc_run_in.nd rfl (.inl rfl)) (pgs_cons (pg_name (i := 6) sc_run_in.nd rfl (.inl rfl)) pgs_nil)))) pgs_nil)))
      (pss_cons (ps_par (i := 7) (j := 8) (by rfl) sc_run_in.nd rfl rfl (by decide) rfl rfl (pa_cons (pe_ix ix_list (pv 2) (pv 4) (fun _ _ => rfl)) (pa_cons (pe_ix ix_list (pv 2) (pv 5) (fun _ _ => rfl)) pa_nil)) (by rfl))
      (pss_cons (ps_if (pw_or (pt_cmpR op_gt (pv 6) (pe_op op_sub (pe_callB (call_min2 (by rfl)) (by rfl) T.z_min (by decide +kernel) (pa_cons (pe_callB call_len_seq (by rfl) T.z_len (by decide +kernel) (pa_cons (pv 7) pa_nil)) (pa_cons (pe_callB call_len_seq (by rfl) T.z_len (by decide +kernel) (pa_cons (pv 8) pa_nil)) pa_nil))) pe_int) (nomark _)) (pw_or1 (pt_cmpR op_gt (pe_op op_sub (pe_op op_sub (pe_op op_add (pe_callB call_len_seq (by rfl) T.z_len (by decide +kernel) (pa_cons (pv 7) pa_nil)) (pe_callB call_len_seq (by rfl) T.z_len (by decide +kernel) (pa_cons (pv 8) pa_nil))) pe_int) (pe_op op_mulW pe_int (pv 6))) (pe_glob (v := .int 40) (by rfl) T.c_MOST_LAID.choose_spec ⟨_, rfl⟩) (nomark _)))).pt
        (pss_one (ps_raiseSup rfl T.sup_Refused PySem.SupX.sup_ArithmeticError SP (by decide) hr (takes_of rfl rfl rfl rfl) (pa_cons (pe_tup (pa_cons (pe_glob (v := .str "row") (by rfl) T.c_ROW.choose_spec ⟨_, rfl⟩) (pa_cons (pv 3) pa_nil))) pa_nil) (by rfl)))
        pss_nil)
      (pss_one (ps_expr (pe_bm PySem.F.plainAttrs_list PySem.F.slot_list_append PySem.F.type_list_append mt_append (pv 2) (pa_cons (pe_call G_laid_in hr (by rfl) T.g_laid_in T.F_laid_in.kp T.b_laid_in .nil pass0 (pa_cons (pv 7) (pa_cons (pv 8) (pa_cons (pv 6) pa_nil)))) pa_nil)))))))
    (pss_one (ps_ret (pv 2))))), ?_⟩
    have z1 : 1 ≤ sizeLine := by decide
    refine ⟨_, rfl, z1, fun D hD => gen_upd H D (.lst [.ref b]) hD fun H1 s1 hL1 => ?_⟩
    have ha1 := sqt_same ha s1
    refine ⟨_, rfl, a, _, rfl, ha1, for_enumT (xs := rs.map V.ref) (fun i σ H' => ∃ y3 y4 y5 y6 y7 y8, σ = [some (.ref a), some (.ref b), some (.ref D), y3, y4, y5, y6, y7, y8] ∧ Same H H' ∧ Good f rows i ∧ ∃ ps : List Addr, H' D = some (.lst (ps.map V.ref)) ∧ Fs H' ps (fsn f rows i)) ⟨none, none, none, none, none, none, rfl, s1, Good.zero, [b], hL1, rfl, fun k hk => ?_⟩ (fun i σ H' hP => ?_) (fun i x B σ H' hxi hP hB => ?_) (fun σ H' hP => ?_)⟩
    · have ek : k = 0 := by simp at hk; omega
      subst ek
      exact s1 _ _ hb
    · obtain ⟨y3, y4, y5, y6, y7, y8, _, sH, _⟩ := hP
      exact sqt_same ha sH
    · obtain ⟨y3, y4, y5, y6, y7, y8, rfl, sH, gd, ps, hL, hF⟩ := hP
      obtain ⟨hi2, hx⟩ := List.getElem?_eq_some_iff.mp hxi
      rw [List.length_map] at hi2
      rw [List.getElem_map] at hx
      subst hx
      have e : rows[i]? = some rows[i] := List.getElem?_eq_getElem (by omega)
      generalize rows[i] = r at e
      obtain ⟨i1, i2⟩ := v.ix i r e
      have hr1 := sqt_same (hrow i hi2 r e) sH
      have hln := fsn_len (f := f) (rows := rows) i (by omega)
      have hr2 : SqT K (upd H' B (.tup [.int (i : Nat), .ref rs[i]])) rs[i] (r.row.map V.int) := sqt_same hr1 (same_upd0 hB)
      refine ⟨B, _, rfl, SqT.of upd_same, rfl, _, _, rfl, _, _, rfl, rs[i], _, rfl, hr2, rfl, _, _, rfl, _, _, rfl, _, _, rfl, rfl, rfl, ?_⟩
      refine gen_upd H' B _ hB (fun H2 s2 _ => ?_)
      have sH2 := sH.trans s2
      have hL2 := s2 _ _ hL
      have hF2 := hF.same s2
      have hps := hF2.1
      have g1 : (ps.map V.ref)[r.a]? = some (.ref (ps[r.a]'(by omega))) := by rw [List.getElem?_map, List.getElem?_eq_getElem (by omega)]; rfl
      have g2 : (ps.map V.ref)[r.b]? = some (.ref (ps[r.b]'(by omega))) := by rw [List.getElem?_map, List.getElem?_eq_getElem (by omega)]; rfl
      have f1 := hF2.2 r.a (by omega)
      have f2 := hF2.2 r.b (by omega)
      refine ⟨_, rfl, _, rfl, D, _, _, _, rfl, rfl, SqL.of hL2, atI_nat (j := r.a) g1, _, rfl, _, rfl, D, _, _, _, rfl, rfl, SqL.of hL2, atI_nat (j := r.b) g2, _, _, rfl, ?_⟩
      have bad : ∀ (hno : ¬ OkR (fsn f rows i) r) (d : Addr) (p : Addr) (H3 : Hp), Same H2 H3 → H3 p = some (.tup [.str "row", .int (i : Int)]) → H3 d = none → E (.ref T.C_Refused) (some d) (upd H3 d (.xd [(PySem.SupX.ff, .ref p)])) := fun hno d p H3 s3 hp hd =>
        qb i ⟨gd, r, e, hno⟩ d _ ((sH2.trans s3).trans (same_upd0 hd)) ⟨p, upd_same, by rw [upd_ne (ne_of_none hp hd)]; exact hp⟩
      have z2 : 2 ≤ sizeLine := by decide
      refine ⟨_, rfl, _, rfl, ps[r.a]'(by omega), _, rfl, .inr (SqT.of f1), _, rfl, ps[r.b]'(by omega), _, rfl, .inr (SqT.of f2), ?_⟩
      rw [List.length_map, List.length_map]
      generalize hN1 : ((fsn f rows i).getD r.a []).length = N1
      generalize hN2 : ((fsn f rows i).getD r.b []).length = N2
      refine ⟨_, _, rfl, _, _, rfl, rfl, _, _, rfl, rfl, _, rfl, iteD (fun c1 => ?_) (fun c1 => ?_)⟩
      · dsimp only []
        refine iteT ⟨_, rfl, z2, fun p hp => gen_upd H2 p _ hp fun H3 s3 k3 => ⟨_, rfl, fun d hd => bad (fun o => ?_) d p H3 s3 k3 hd⟩⟩
        have o1 := o.a
        have o2 := o.b
        split at c1 <;> omega
      · refine ⟨_, rfl, ps[r.a]'(by omega), _, rfl, .inr (SqT.of f1), _, rfl, ps[r.b]'(by omega), _, rfl, .inr (SqT.of f2), ?_⟩
        rw [List.length_map, List.length_map, hN1, hN2]
        refine ⟨_, _, rfl, rfl, _, _, rfl, rfl, _, rfl, _, _, rfl, rfl, sm_mul (sm_le (n := 2) (by decide) (by decide)) (sm_le (n := 200) (show ((r.t : Nat) : Int).natAbs ≤ 200 by have := v.tm r (List.mem_of_getElem? e); omega) (by decide)), _, _, rfl, rfl, _, _, rfl, rfl, _, rfl, iteD (fun c2 => ?_) (fun c2 => ?_)⟩
        · refine ⟨_, rfl, z2, fun p hp => gen_upd H2 p _ hp fun H3 s3 k3 => ⟨_, rfl, fun d hd => bad (fun o => ?_) d p H3 s3 k3 hd⟩⟩
          have o3 := o.s
          rw [hN1, hN2] at o3
          omega
        · have ok : OkR (fsn f rows i) r := by
            refine ⟨?_, ?_, ?_⟩
            · rw [hN1]
              split at c1 <;> omega
            · rw [hN2]
              split at c1 <;> omega
            · rw [hN1, hN2]
              omega
          have ld := ldOk_rows bf hβ hn v (by omega) gd e ok
          refine ⟨_, rfl, .inl ⟨rfl, _, SqL.of hL2⟩, _, rfl, _, rfl, _, rfl, _, _, _, _, r.t, rfl, f1, f2, ld, fun p H3 s3 k3 => ⟨D, _, _, rfl, rfl, s3 _ _ hL2, ?_, ?_⟩⟩
          · rw [List.length_map, hps, hln]
            exact small1000 (by have := v.len; omega)
          · have nD : ∀ (x : Addr) (l : List Int), H3 x = some (tp l) → x ≠ D := fun x l q z => by
              rw [z, s3 _ _ hL2] at q
              cases q
            refine ⟨_, _, _, _, _, _, rfl, fun x o q => ?_, gd.succ e ok, ps ++ [p], by rw [upd_same, List.map_append]; rfl, ?_⟩
            · rw [upd_ne (ne_of_none q hD)]
              exact s3 _ _ (sH2 _ _ q)
            · rw [fsn_succ e]
              refine hF2.snoc (fun x l q => ?_) ?_
              · have q3 := s3 _ _ q
                rw [upd_ne (nD _ _ q3)]
                exact q3
              · rw [upd_ne (nD _ _ k3)]
                exact k3
    · obtain ⟨y3, y4, y5, y6, y7, y8, rfl, sH, gd, ps, hL, hF⟩ := hP
      rw [List.length_map, lr] at gd hF
      exact ⟨_, rfl, qg gd D H' ps sH hL hF⟩
end
end K40

set_option Elab.async false
set_option linter.all false
set_option maxRecDepth 100000
set_option maxHeartbeats 4000000
namespace K40
open PySem PySem.Spec PyProof.Rows L2 StX RZ MyR SlX OwnR OwnF EnumT
section
variable {P : Program} {w : World} {K : PySem.W.Frag} {mg : Str → Option Value} {base : Heap}
theorem Fo.lst {C a F : Addr} {H : Hp} {o : HO} {xs : List V} {ns : List Int} (h : Fo C H a ns) (hF : H F = some (.lst xs)) : Fo C (upd H F o) a ns := by
  obtain ⟨dx, t, h1, h2, h3⟩ := h
  refine ⟨dx, t, ?_, ?_, ?_⟩
  · rw [upd_ne (fun q => ?_)]
    · exact h1
    · rw [q, hF] at h1
      cases h1
  · rw [upd_ne (fun q => ?_)]
    · exact h2
    · rw [q, hF] at h2
      cases h2
  · rw [upd_ne (fun q => ?_)]
    · exact h3
    · rw [q, hF] at h3
      cases h3
def spRunRows (K : PySem.W.Frag) (R C : Addr) : Sp := fun vs H Q E => ∃ (a F : Addr) (rows : List RTr) (f : List Int) (n β : Nat), vs = [.ref a, .ref F] ∧ Rws K H a rows ∧ Vr rows ∧ Fo C H F f ∧ Bd f n (2 ^ β) ∧ β ≤ 20 ∧ n ≤ 6 ∧
  (∀ i, BadAt f rows i → ∀ d H', Same H H' → Rsn H' d i → E (.ref R) (some d) H') ∧
  (Good f rows rows.length → ∀ p H' (gs : List Addr), Same H H' → H' p = some (.tup ((F :: gs).map V.ref)) → gs.length = rows.length → (∀ (k : Nat) (h : k < gs.length), Fo C H' gs[k] ((fsn f rows rows.length).getD (k + 1) [])) → Q (.ref p) H')
theorem ok_run_rows (T : Facts K mg) (SP : PySem.SupX.SupP P "/claim/cut.py") : FnOk P w K mg base (L2.CX P w) 8 T.f_run_rows T.fd_run_rows ["rows", "form"] (spRunRows K T.C_Refused T.C_Form) := by
  have G_run_in := ok_run_in (P := P) (w := w) (base := base) T SP
  have G_require_row_list := ok_require_row_list (P := P) (w := w) (base := base) T
  have G_require_form := ok_require_form (P := P) (w := w) (base := base) T
  have G_Form_entries := ok_Form_entries (P := P) (w := w) (base := base) T
  have G_form_of : FnOk P w K mg base CX0 7 T.f_form_of T.fd_form_of ["entries"] (spMake T.C_Form) := ok_form_of T
  refine T.F_run_rows.ok (CX := L2.CX P w) sc_run_rows (fun vs H Q E h => ?_) (fun cdv A outer s H vs Q E hr h => ?_)
  · obtain ⟨a, F, rows, f, n, β, rfl, _⟩ := h
    rfl
  · obtain ⟨a, F, rows, f, n, β, rfl, ha, v, fo, bf, hβ, hn, qb, qg⟩ := h
    refine ⟨_, (pss_cons (ps_expr (pe_call G_require_row_list (hr.mono (by decide)) (by rfl) T.g_require_row_list T.F_require_row_list.kp T.b_require_row_list .nil pass0 (pa_cons (pv 0) pa_nil)))
    (pss_cons (ps_expr (pe_call G_require_form (hr.mono (by decide)) (by rfl) T.g_require_form T.F_require_form.kp T.b_require_form .nil pass0 (pa_cons (pv 1) pa_nil)))
    (pss_one (ps_ret (pe_tup (pa_cons (pv 1) (pa_star (pe_lc (own := [("entries", 2)]) (g := (gName 2)) (tt := tYes) (by rfl) sc_run_rows.nd (pi_list (pe_slice sl_list (pe_callS G_run_in (hr.mono (by decide)) (by rfl) T.g_run_in T.F_run_in.kp T.b_run_in (fun σ => passAt (takes_of rfl rfl rfl rfl) σ) (pa_cons (pv 0) (pa_cons (pe_prp (pv 1) T.oc_Form T.pr_Form_entries G_Form_entries T.b_Form_entries (hr.mono (by decide))) pa_nil))) (po_some pe_int) po_none)) (blkOk_by (N := N_run_rows) (sc := defScope s_run_rows) (by decide +kernel)) (fun _ _ _ _ _ => (pg_name (i := 2) sc_run_rows.nd rfl (.inl rfl))) (fun _ _ _ _ _ => pts_nil) (fun _ _ _ _ _ => (pe_call G_form_of hr (by rfl) T.g_form_of T.F_form_of.kp T.b_form_of .nil pass0 (pa_cons (pv 2) pa_nil)))) pa_nil))))))), ?_⟩
    refine ⟨_, rfl, a, rows, rfl, ha, v, fun H1 s1 => ?_⟩
    refine ⟨_, rfl, F, f, rfl, fo.same s1, ?_⟩
    refine ⟨_, rfl, _, rfl, _, rfl, prop_ent (fo.same s1) fun u wu => ?_⟩
    refine ⟨a, u, rows, f, n, β, rfl, ha.same s1, v, wu, bf, hβ, hn, fun i b d H' s' hd => qb i b d H' (s1.trans s') hd, fun gd D H2 ps s2 hD hF => ?_⟩
    have hl := fsn_len (f := f) (rows := rows) rows.length (Nat.le_refl _)
    obtain ⟨hps, hrow⟩ := hF
    have hlen := v.len
    obtain ⟨p0, pt, rfl⟩ : ∃ p0 pt, ps = p0 :: pt := by
      cases ps with
      | nil => rw [hl] at hps; simp at hps
      | cons p0 pt => exact ⟨p0, pt, rfl⟩
    have lpt : pt.length = rows.length := by simp at hps; omega
    refine ⟨1, rfl, D, _, rfl, SqL.of hD, fun C1 hC1 => ?_⟩
    rw [cut_tail _ (by simp)]
    refine gen_upd H2 C1 (.lst (pt.map V.ref)) hC1 fun H3 s3 k3 => ?_
    refine ⟨C1, rfl, ⟨_, SqL.of k3⟩, fun D2 hD2 => lc_list (xs := pt.map V.ref) (fun j H' => Same H3 H' ∧ ∃ gs : List Addr, H' D2 = some (.lst (gs.map V.ref)) ∧ gs.length = j ∧ ∀ (k : Nat) (h : k < gs.length), Fo T.C_Form H' gs[k] ((fsn f rows rows.length).getD (k + 1) [])) ⟨same_upd0 hD2, [], upd_same, rfl, fun k hk => absurd hk (Nat.not_lt_zero k)⟩ (fun j H' _ hP => SqL.of (hP.1 _ _ k3)) (fun j x H' hx hP => ?_) (fun H' hP => ?_)⟩
    · obtain ⟨sH, gs, hL, hgl, hfo⟩ := hP
      obtain ⟨hj, hx⟩ := List.getElem?_eq_some_iff.mp hx
      rw [List.length_map] at hj
      rw [List.getElem_map] at hx
      subst hx
      have ht : H' pt[j] = some (tp ((fsn f rows rows.length).getD (j + 1) [])) := sH _ _ (s3 _ _ (hrow (j + 1) (by simp; omega)))
      refine ⟨rfl, _, rfl, pt[j], _, rfl, ht, fun p H5 s5 np fo5 => ⟨_, s5 _ _ hL, ?_, fun b o e => ?_, gs ++ [p], by rw [upd_same, List.map_append]; rfl, by rw [List.length_append, hgl]; rfl, fun k hk => ?_⟩⟩
      · rw [List.length_map]
        exact small1000 (by omega)
      · rw [upd_ne (ne_of_none e hD2)]
        exact s5 _ _ (sH _ _ e)
      · by_cases c : k < gs.length
        · rw [List.getElem_append_left c]
          exact Fo.lst ((hfo k c).same s5) (s5 _ _ hL)
        · have ek : k = gs.length := by rw [List.length_append] at hk; simp at hk; omega
          subst ek
          rw [show (gs ++ [p])[gs.length] = p by rw [List.getElem_append_right (Nat.le_refl _)]; simp, hgl]
          exact Fo.lst fo5 (s5 _ _ hL)
    · obtain ⟨sH, gs, hL, hgl, hfo⟩ := hP
      rw [List.length_map, lpt] at hgl
      refine ⟨D2, _, rfl, .inr (SqL.of hL), ?_⟩
      show ([V.ref F] ++ (gs.map V.ref ++ [])).length ≤ sizeLine ∧ _
      refine ⟨?_, fun p hp => gen_upd H' p (.tup (V.ref F :: (gs.map V.ref ++ []))) hp fun H6 s6 k6 => ?_⟩
      · rw [List.append_nil, List.length_append, List.length_map]
        exact Nat.le_of_lt (small1000 (by simp; omega))
      · rw [List.append_nil] at k6
        have sAll := s1.trans (s2.trans (s3.trans (sH.trans s6)))
        exact qg gd p H6 gs sAll k6 hgl fun k hk => (hfo k hk).same s6
end
end K40

set_option Elab.async false
set_option linter.all false
set_option maxRecDepth 100000
set_option maxHeartbeats 4000000
namespace K40
open PySem PySem.Spec PyProof.Rows L2 StX RZ MyR SlX OwnR OwnF EnumT
/-! ### row lists of the module: judged by their degrees -/
/-- the lengths of the forms behind i triples -/
def dgn (n : Nat) (rows : List RTr) : Nat → List Nat
  | 0 => [n + 1]
  | i + 1 => match rows[i]? with
    | some r => dgn n rows i ++ [(dgn n rows i).getD r.a 0 + (dgn n rows i).getD r.b 0 - 1 - 2 * r.t]
    | none => dgn n rows i
theorem dgn_succ {n : Nat} {rows : List RTr} {i : Nat} {r : RTr} (h : rows[i]? = some r) : dgn n rows (i + 1) = dgn n rows i ++ [(dgn n rows i).getD r.a 0 + (dgn n rows i).getD r.b 0 - 1 - 2 * r.t] := by
  show (match rows[i]? with
    | some r => dgn n rows i ++ [(dgn n rows i).getD r.a 0 + (dgn n rows i).getD r.b 0 - 1 - 2 * r.t]
    | none => dgn n rows i) = _
  rw [h]
def okD (d : List Nat) (j : Nat) (r : RTr) : Bool := decide (r.t + 1 ≤ d.getD r.a 0 ∧ r.t + 1 ≤ d.getD r.b 0 ∧ d.getD r.a 0 + d.getD r.b 0 ≤ 42 + 2 * r.t ∧ d.getD r.a 0 ≤ 41 ∧ d.getD r.b 0 ≤ 41 ∧ r.a ≤ j ∧ r.b ≤ j ∧ r.t ≤ 24)
def chk (n : Nat) (rows : List RTr) : Bool := decide (rows.length ≤ 20) && ((List.range rows.length).all fun j => match rows[j]? with
  | some r => okD (dgn n rows j) j r
  | none => false) && ((List.range (rows.length + 1)).all fun i => (szn rows i).all fun s => decide (s ≤ 24))
theorem getD_map_len (l : List (List Int)) (k : Nat) : (l.map List.length).getD k 0 = (l.getD k []).length := by
  rw [List.getD_eq_getElem?_getD, List.getD_eq_getElem?_getD, List.getElem?_map]
  cases l[k]? <;> rfl
theorem L_length {t : Nat} {f g : List Int} (hf : t + 1 ≤ f.length) (hg : t + 1 ≤ g.length) (lf : f.length ≤ 41) (lg : g.length ≤ 41) : (L t f g).length = f.length + g.length - 1 - 2 * t := by
  have b1 : Bd f (f.length - 1) (nm f) := ⟨by omega, Nat.le_refl _⟩
  have b2 : Bd g (g.length - 1) (nm g) := ⟨by omega, Nat.le_refl _⟩
  have := (L_bdW t b1 b2 (by omega) (by omega) (by omega) (by omega)).len
  omega
theorem chk_good {n : Nat} {rows : List RTr} {f : List Int} (hf : f.length = n + 1) (h : ∀ (j : Nat) (r : RTr), rows[j]? = some r → okD (dgn n rows j) j r = true) : ∀ i, i ≤ rows.length → (fsn f rows i).map List.length = dgn n rows i ∧ Good f rows i
  | 0, _ => ⟨by show [f.length] = [n + 1]; rw [hf], Good.zero⟩
  | i + 1, hi => by
    obtain ⟨e1, g1⟩ := chk_good hf h i (by omega)
    have e : rows[i]? = some rows[i] := List.getElem?_eq_getElem (by omega)
    generalize rows[i] = r at e
    obtain ⟨o1, o2, o3, o4, o5, o6, o7, o8⟩ := of_decide_eq_true (h i r e)
    rw [← e1, getD_map_len, getD_map_len] at o3
    rw [← e1, getD_map_len] at o1 o2 o4 o5
    have ok : OkR (fsn f rows i) r := ⟨o1, o2, o3⟩
    refine ⟨?_, g1.succ e ok⟩
    rw [fsn_succ e, dgn_succ e, List.map_append, e1, List.map_singleton, L_length o1 o2 o4 o5, ← getD_map_len, ← getD_map_len, e1]
structure Chk (n : Nat) (rows : List RTr) : Prop where
  v : Vr rows
  g : ∀ f : List Int, f.length = n + 1 → Good f rows rows.length
  d : ∀ f : List Int, f.length = n + 1 → (fsn f rows rows.length).map List.length = dgn n rows rows.length
theorem of_chk {n : Nat} {rows : List RTr} (h : chk n rows = true) : Chk n rows := by
  unfold chk at h
  rw [Bool.and_eq_true, Bool.and_eq_true] at h
  obtain ⟨⟨h1, h2⟩, h3⟩ := h
  have h1 := of_decide_eq_true h1
  have key : ∀ (j : Nat) (r : RTr), rows[j]? = some r → okD (dgn n rows j) j r = true := fun j r e => by
    have := List.all_eq_true.mp h2 j (List.mem_range.mpr (List.getElem?_eq_some_iff.mp e).1)
    rw [e] at this
    exact this
  refine ⟨⟨h1, fun i r e => ?_, fun i hi s hs => ?_, fun r hr => ?_⟩, fun f hf => (chk_good hf key _ (Nat.le_refl _)).2, fun f hf => (chk_good hf key _ (Nat.le_refl _)).1⟩
  · obtain ⟨_, _, _, _, _, o6, o7, _⟩ := of_decide_eq_true (key i r e)
    exact ⟨o6, o7⟩
  · have := List.all_eq_true.mp h3 i (List.mem_range.mpr (by omega))
    exact of_decide_eq_true (List.all_eq_true.mp this s hs)
  · obtain ⟨i, hi, rfl⟩ := List.getElem_of_mem hr
    obtain ⟨_, _, _, _, _, _, _, o8⟩ := of_decide_eq_true (key i _ (List.getElem?_eq_getElem hi))
    exact o8
/-- rows of a module's constant -/
theorem rws_rk {K : PySem.W.Frag} {b : Addr} {rows : List RTr} (h : DictT.Rk K b (rows.map RTr.row)) (H : Hp) : Rws K H b rows := by
  obtain ⟨rs, e1, e2, e3⟩ := h
  rw [List.length_map] at e1
  exact ⟨rs, e1, e2 H, fun i hi r hr => e3 i hi r.row (by rw [List.getElem?_map, hr]; rfl) H⟩
/-- sizes and orders behind i triples -/
def mkn (n : Nat) (rows : List RTr) : Nat → List (List Int)
  | 0 => [[1, (n : Int)]]
  | i + 1 => match rows[i]? with
    | some r => mkn n rows i ++ [[co ((mkn n rows i).getD r.a []) 0 + co ((mkn n rows i).getD r.b []) 0, co ((mkn n rows i).getD r.a []) 1 + co ((mkn n rows i).getD r.b []) 1 - 2 * (r.t : Int)]]
    | none => mkn n rows i
theorem mkn_succ {n : Nat} {rows : List RTr} {i : Nat} {r : RTr} (h : rows[i]? = some r) : mkn n rows (i + 1) = mkn n rows i ++ [[co ((mkn n rows i).getD r.a []) 0 + co ((mkn n rows i).getD r.b []) 0, co ((mkn n rows i).getD r.a []) 1 + co ((mkn n rows i).getD r.b []) 1 - 2 * (r.t : Int)]] := by
  show (match rows[i]? with
    | some r => mkn n rows i ++ [[co ((mkn n rows i).getD r.a []) 0 + co ((mkn n rows i).getD r.b []) 0, co ((mkn n rows i).getD r.a []) 1 + co ((mkn n rows i).getD r.b []) 1 - 2 * (r.t : Int)]]
    | none => mkn n rows i) = _
  rw [h]
theorem mkn_len {n : Nat} {rows : List RTr} : ∀ i, i ≤ rows.length → (mkn n rows i).length = i + 1 ∧ ∀ x ∈ mkn n rows i, x.length = 2
  | 0, _ => ⟨rfl, fun x hx => by rw [List.mem_singleton.mp hx]; rfl⟩
  | i + 1, hi => by
    obtain ⟨h1, h2⟩ := mkn_len (n := n) (rows := rows) i (by omega)
    have e : rows[i]? = some rows[i] := List.getElem?_eq_getElem (by omega)
    rw [mkn_succ e]
    refine ⟨by rw [List.length_append, h1]; rfl, fun x hx => ?_⟩
    rcases List.mem_append.mp hx with q | q
    · exact h2 x q
    · rw [List.mem_singleton.mp q]
      rfl
end K40

set_option Elab.async false
set_option linter.all false
set_option maxRecDepth 100000
set_option maxHeartbeats 4000000
namespace K40
open PySem PySem.Spec PyProof.Rows L2 StX RZ MyR SlX OwnR OwnF EnumT
/-! ### rows of tuples as data -/
def TD (ls : List (List Int)) : List PyData := ls.map fun l => .tuple (l.map PyData.int)
theorem lay_td : ∀ ls : List (List Int), PyData.canLayAll0 (TD ls) = true
  | [] => rfl
  | l :: r => by
    show (PyData.canLay0 (.tuple (l.map PyData.int)) && PyData.canLayAll0 (TD r)) = true
    rw [lay_td r, show PyData.canLay0 (.tuple (l.map PyData.int)) = PyData.canLayAll0 (l.map PyData.int) from rfl, lay_ints]
    rfl
theorem depth_td : ∀ ls : List (List Int), PyData.depthAll (TD ls) ≤ 1
  | [] => Nat.zero_le _
  | l :: r => by
    show max (PyData.depth (.tuple (l.map PyData.int))) (PyData.depthAll (TD r)) ≤ 1
    have h := depth_td r
    rw [show PyData.depth (.tuple (l.map PyData.int)) = PyData.depthAll (l.map PyData.int) + 1 from rfl, depth_ints]
    omega
theorem shaped_ltd (ls : List (List Int)) : SeqAt.shaped (.list (TD ls)) = true := by
  unfold SeqAt.shaped
  rw [show PyData.canLay0 (.list (TD ls)) = PyData.canLayAll0 (TD ls) from rfl, lay_td]
  rw [show PyData.depth (.list (TD ls)) = PyData.depthAll (TD ls) + 1 from rfl, decide_eq_true (show PyData.depthAll (TD ls) + 1 ≤ 64 by have := depth_td ls; omega)]
  rfl
theorem eqv_ltd (ls : List (List Int)) : PyData.eqv (.list (TD ls)) (.list (TD ls)) = true := SeqAt.eqv_refl _ (lay_td ls)
/-- the parts' rows -/
def rw_ (n : Nat) (φ : Nat → List Int) : List (List Int) := (List.range n).map φ
theorem dpAll_fn {K : PySem.W.Frag} {H : Hp} : ∀ (rs : List Addr) (n : Nat) (φ : Nat → List Int), rs.length = n → (∀ u (h : u < rs.length), H rs[u] = some (tp (φ u))) → DpAll K H (rs.map V.ref) (TD (rw_ n φ))
  | [], n, φ, hn, _ => by
    subst hn
    exact .nil
  | r :: rs, n, φ, hn, h => by
    subst hn
    unfold rw_
    rw [List.length_cons, List.range_succ_eq_map, List.map_cons, List.map_cons, List.map_map]
    exact .cons (.tup (SqT.of (h 0 (by simp))) (dpAll_ints _)) (dpAll_fn rs _ (fun u => φ (u + 1)) rfl fun u hu => h (u + 1) (by simpa using hu))
theorem ne_lrows {K : PySem.W.Frag} {H : Hp} {a b : Addr} {rs ss : List Addr} {n : Nat} {φ ψ : Nat → List Int} {Q : VK} (ha : H a = some (.lst (rs.map V.ref))) (hb : H b = some (.lst (ss.map V.ref))) (lr : rs.length = n) (ls : ss.length = n) (h1 : ∀ u (h : u < rs.length), H rs[u] = some (tp (φ u))) (h2 : ∀ u (h : u < ss.length), H ss[u] = some (tp (ψ u))) (e : ∀ u, u < n → φ u = ψ u) (q : Q (.bl false) H) : rNeD K (.ref a) (.ref b) H Q := by
  have h2' : ∀ u (h : u < ss.length), H ss[u] = some (tp (φ u)) := fun u h => by rw [h2 u h, e u (by omega)]
  refine ⟨_, _, .lst (SqL.of ha) (dpAll_fn rs n φ lr h1), .lst (SqL.of hb) (dpAll_fn ss n φ ls h2'), shaped_ltd _, shaped_ltd _, ?_⟩
  rw [eqv_ltd]
  exact q
theorem wtn_stable {rows : List RTr} {i k : Nat} (hk : k ≤ i) : ∀ n, i ≤ n → n ≤ rows.length → (wtn rows n).getD k 0 = (wtn rows i).getD k 0
  | 0, h, _ => by
    have : i = 0 := by omega
    subst this
    rfl
  | n + 1, h, hn => by
    by_cases c : i = n + 1
    · rw [c]
    · have e : rows[n]? = some rows[n] := List.getElem?_eq_getElem (by omega)
      rw [wtn_succ e, getD_left (by rw [wtn_len n (by omega)]; omega)]
      exact wtn_stable hk n (by omega) (by omega)
theorem wtn_at {rows : List RTr} {i : Nat} {r : RTr} (v : Vr rows) (e : rows[i]? = some r) : (wtn rows rows.length).getD (i + 1) 0 = (wtn rows rows.length).getD r.a 0 + (wtn rows rows.length).getD r.b 0 + r.t := by
  have hi := (List.getElem?_eq_some_iff.mp e).1
  obtain ⟨ha, hb⟩ := v.ix i r e
  rw [wtn_stable (i := i + 1) (Nat.le_refl _) _ (by omega) (Nat.le_refl _), wtn_stable (i := i) ha _ (by omega) (Nat.le_refl _), wtn_stable (i := i) hb _ (by omega) (Nat.le_refl _), wtn_succ e]
  have hl := wtn_len (rows := rows) i (by omega)
  rw [← hl]
  exact getD_last
theorem wtn_zero (rows : List RTr) : (wtn rows rows.length).getD 0 0 = 0 := wtn_stable (i := 0) (Nat.le_refl _) _ (by omega) (Nat.le_refl _)
theorem rows_changed {f : List Int} {rows : List RTr} (v : Vr rows) (a b c e : Int) (hf : f ≠ []) (g : Good f rows rows.length) : Good (changed [a, b] [c, e] f) rows rows.length ∧ ∀ k, k ≤ rows.length → (fsn (changed [a, b] [c, e] f) rows rows.length).getD k [] = (changed [a, b] [c, e] ((fsn f rows rows.length).getD k [])).map ((a * e - b * c) ^ (wtn rows rows.length).getD k 0 * ·) := by
  refine rows_led f (changed [a, b] [c, e] f) rows (changed [a, b] [c, e]) (fun k => (a * e - b * c) ^ (wtn rows rows.length).getD k 0) 0 ?_ (fun l hl => changed_len rfl rfl hl) v (fun i r h x y hx hy => ?_) rows.length (Nat.le_refl _) g
  · show _ = (changed [a, b] [c, e] f).map ((a * e - b * c) ^ (wtn rows rows.length).getD 0 0 * ·)
    rw [wtn_zero, Int.pow_zero, map_one]
  · show (L r.t (changed [a, b] [c, e] x) (changed [a, b] [c, e] y)).map _ = (changed [a, b] [c, e] (L r.t x y)).map ((a * e - b * c) ^ (wtn rows rows.length).getD (i + 1) 0 * ·)
    rw [wtn_at v h, L_changed_list hx hy, map_mul_comm, map_map_mul, Int.pow_add, Int.pow_add]
end K40

set_option Elab.async false
set_option linter.all false
set_option maxRecDepth 100000
set_option maxHeartbeats 4000000
namespace K40
open PySem PySem.Spec PyProof.Rows L2 StX RZ MyR SlX OwnR OwnF EnumT
def rows5 : List RTr := [⟨0, 0, 4⟩, ⟨0, 0, 2⟩, ⟨0, 1, 2⟩, ⟨0, 1, 1⟩, ⟨0, 2, 1⟩, ⟨0, 4, 5⟩, ⟨0, 3, 2⟩, ⟨0, 3, 1⟩, ⟨0, 7, 4⟩, ⟨0, 7, 3⟩, ⟨0, 7, 1⟩, ⟨0, 10, 3⟩, ⟨0, 9, 1⟩, ⟨0, 13, 4⟩, ⟨0, 12, 1⟩, ⟨0, 15, 5⟩, ⟨0, 15, 4⟩, ⟨0, 17, 2⟩]
def rows6 : List RTr := [⟨0, 0, 6⟩, ⟨0, 0, 4⟩, ⟨0, 0, 2⟩, ⟨0, 2, 4⟩, ⟨0, 2, 2⟩, ⟨0, 2, 1⟩, ⟨0, 3, 1⟩, ⟨0, 5, 6⟩, ⟨0, 4, 2⟩, ⟨0, 4, 1⟩, ⟨0, 5, 1⟩, ⟨0, 9, 4⟩, ⟨0, 9, 3⟩, ⟨0, 9, 1⟩, ⟨2, 9, 4⟩, ⟨0, 12, 1⟩, ⟨0, 13, 2⟩, ⟨0, 16, 5⟩, ⟨0, 16, 4⟩]
def toR (n : Nat) : List RTr := if n = 5 then rows5 else rows6
theorem chk5 : chk 5 rows5 = true := by decide +kernel
theorem chk6 : chk 6 rows6 = true := by decide +kernel
theorem toR_chk {n : Nat} (h : n = 5 ∨ n = 6) : Chk n (toR n) := by
  rcases h with rfl | rfl
  · exact of_chk chk5
  · exact of_chk chk6
theorem look_told {n : Nat} (h : n = 5 ∨ n = 6) : DictT.look v_TOLD (n : Int) = some ((toR n).map RTr.row) := by
  rcases h with rfl | rfl <;> rfl
section
variable {P : Program} {w : World} {K : PySem.W.Frag} {mg : Str → Option Value} {base : Heap}
theorem gen_app (H : Hp) (F : Addr) (o : HO) {R : Hp → Prop} (h : ∀ H' : Hp, H' F = some o → (∀ b, b ≠ F → H' b = H b) → R H') : R (upd H F o) := h _ upd_same fun _ hb => upd_ne hb
def spReqTold : Sp := fun vs H Q _ => ∃ n : Nat, vs = [.int n] ∧ (n = 5 ∨ n = 6) ∧ Q .non H
theorem ok_require_told (T : Facts K mg) : FnOk P w K mg base CX0 3 T.f_require_told T.fd_require_told ["degree"] spReqTold := by
  have G_is_from := ok_is_from (P := P) (w := w) (base := base) T
  refine T.F_require_told.ok sc_require_told (fun vs H Q E h => ?_) (fun cdv A outer s H vs Q E hr h => ?_)
  · obtain ⟨n, rfl, _⟩ := h
    rfl
  · obtain ⟨n, rfl, hn, q⟩ := h
    refine ⟨_, (PSs.nox (pss_one (ps_if (pt_not (pt_val (pe_call G_is_from hr (by rfl) T.g_is_from T.F_is_from.kp T.b_is_from .nil pass0 (pa_cons (pv 0) (pa_cons pe_int (pa_cons pe_int pa_nil))))))
      (pss_one ps_never)
      pss_nil))), ?_⟩
    exact ⟨_, rfl, (n : Int), 5, 6, rfl, by omega, by omega, true, rfl, iteF q⟩
def spMarksOf : Sp := fun vs H Q _ => ∃ n : Nat, vs = [.int n] ∧ (n = 5 ∨ n = 6) ∧ ∀ D H' (ps : List Addr), Same H H' → H' D = some (.lst (ps.map V.ref)) → Fs H' ps (mkn n (toR n) (toR n).length) → Q (.ref D) H'
theorem ok_marks_of (T : Facts K mg) : FnOk P w K mg base CX0 1 T.f_marks_of T.fd_marks_of ["degree"] spMarksOf := by
  refine T.F_marks_of.ok sc_marks_of (fun vs H Q E h => ?_) (fun cdv A outer s H vs Q E hr h => ?_)
  · obtain ⟨n, rfl, _⟩ := h
    rfl
  · obtain ⟨n, rfl, hn, q⟩ := h
    refine ⟨_, (PSs.nox (pss_cons (ps_set (i := 1) sc_marks_of.nd rfl (.inl rfl) (pe_lst (pa_cons (pe_tup (pa_cons pe_int (pa_cons (pv 0) pa_nil))) pa_nil)))
    (pss_cons (ps_for PassesOwn.never (by rfl) (pi_tup (DictT.pe_dgetK (pe_glob (v := .ref T.A_TOLD) (by rfl) T.t_TOLD.g rfl) (pv 0) (fun _ _ => rfl))) (pg_tup (by rfl) (pgs_cons (pg_name (i := 2) sc_marks_of.nd rfl (.inl rfl)) (pgs_cons (pg_name (i := 3) sc_marks_of.nd rfl (.inl rfl)) (pgs_cons (pg_name (i := 4) sc_marks_of.nd rfl (.inl rfl)) pgs_nil))))
      (pss_cons (ps_par (i := 5) (j := 6) (by rfl) sc_marks_of.nd rfl rfl (by decide) rfl rfl (pa_cons (pe_ix ix_list (pv 1) (pv 2) (fun _ _ => rfl)) (pa_cons (pe_ix ix_list (pv 1) (pv 3) (fun _ _ => rfl)) pa_nil)) (by rfl))
      (pss_one (ps_expr (pe_bm PySem.F.plainAttrs_list PySem.F.slot_list_append PySem.F.type_list_append mt_append (pv 1) (pa_cons (pe_tup (pa_cons (pe_op op_add (pe_ix ix_tup (pv 5) pe_int (fun _ _ => rfl)) (pe_ix ix_tup (pv 6) pe_int (fun _ _ => rfl))) (pa_cons (pe_op op_sub (pe_op op_add (pe_ix ix_tup (pv 5) pe_int (fun _ _ => rfl)) (pe_ix ix_tup (pv 6) pe_int (fun _ _ => rfl))) (pe_op op_mulW pe_int (pv 4))) pa_nil))) pa_nil))))))
    (pss_one (ps_ret (pv 1)))))), ?_⟩
    have C := toR_chk hn
    have z1 : 1 ≤ sizeLine := by decide
    have z2 : 2 ≤ sizeLine := by decide
    refine ⟨_, rfl, z2, fun p0 m0 => gen_upd H p0 (tp [1, (n : Int)]) m0 fun H1 s1 k1 => ⟨z1, fun D mD => gen_upd H1 D (.lst [.ref p0]) mD fun H2 s2 k2 => ?_⟩⟩
    refine ⟨_, rfl, T.A_TOLD, n, v_TOLD, (toR n).map RTr.row, rfl, rfl, T.t_TOLD.d, look_told hn, fun b rk => ?_⟩
    generalize toR n = rows at C rk q
    obtain ⟨rs, lr, hb, hrow⟩ := rws_rk rk H1
    refine ⟨b, rfl, ⟨_, sqt_same hb s2⟩, for_tup (xs := rs.map V.ref) (fun i σ H' => ∃ y2 y3 y4 y5 y6, σ = [some (.int (n : Int)), some (.ref D), y2, y3, y4, y5, y6] ∧ Same H1 H' ∧ ∃ ps : List Addr, H' D = some (.lst (ps.map V.ref)) ∧ Fs H' ps (mkn n rows i)) ⟨none, none, none, none, none, rfl, s2, [p0], k2, rfl, fun k hk => ?_⟩ (fun i σ H' _ hP => ?_) (fun i x σ H' hxi hP => ?_) (fun σ H' hP => ?_)⟩
    · have ek : k = 0 := by simp at hk; omega
      subst ek
      exact s2 _ _ k1
    · obtain ⟨y2, y3, y4, y5, y6, _, sH, _⟩ := hP
      exact sqt_same hb sH
    · obtain ⟨y2, y3, y4, y5, y6, rfl, sH, ps, hL, hF⟩ := hP
      obtain ⟨hi2, hx⟩ := List.getElem?_eq_some_iff.mp hxi
      rw [List.length_map] at hi2
      rw [List.getElem_map] at hx
      subst hx
      have e : rows[i]? = some rows[i] := List.getElem?_eq_getElem (by omega)
      generalize rows[i] = r at e
      obtain ⟨i1, i2⟩ := C.v.ix i r e
      have ht := C.v.tm r (List.mem_of_getElem? e)
      have hr := sqt_same (hrow i hi2 r e) sH
      obtain ⟨ml, m2⟩ := mkn_len (n := n) (rows := rows) i (by omega)
      have hps := hF.1
      have g1 : (ps.map V.ref)[r.a]? = some (.ref (ps[r.a]'(by omega))) := by rw [List.getElem?_map, List.getElem?_eq_getElem (by omega)]; rfl
      have g2 : (ps.map V.ref)[r.b]? = some (.ref (ps[r.b]'(by omega))) := by rw [List.getElem?_map, List.getElem?_eq_getElem (by omega)]; rfl
      have f1 := hF.2 r.a (by omega)
      have f2 := hF.2 r.b (by omega)
      have e1 : ((mkn n rows i).getD r.a []).length = 2 := by
        rw [List.getD_eq_getElem?_getD, List.getElem?_eq_getElem (by omega)]
        exact m2 _ (List.getElem_mem _)
      have e2 : ((mkn n rows i).getD r.b []).length = 2 := by
        rw [List.getD_eq_getElem?_getD, List.getElem?_eq_getElem (by omega)]
        exact m2 _ (List.getElem_mem _)
      refine ⟨rs[i], _, rfl, hr, rfl, _, _, rfl, _, _, rfl, _, _, rfl, rfl, ?_⟩
      refine ⟨_, rfl, _, rfl, D, _, _, _, rfl, rfl, SqL.of hL, atI_nat (j := r.a) g1, _, rfl, _, rfl, D, _, _, _, rfl, rfl, SqL.of hL, atI_nat (j := r.b) g2, _, _, rfl, ?_⟩
      refine ⟨_, rfl, .inl ⟨rfl, _, SqL.of hL⟩, _, rfl, ps[r.a]'(by omega), _, 0, _, rfl, rfl, SqT.of f1, atI_nat (j := 0) (get_int (by omega)), _, rfl, ps[r.b]'(by omega), _, 0, _, rfl, rfl, SqT.of f2, atI_nat (j := 0) (get_int (by omega)), _, _, rfl, rfl, _, rfl, ps[r.a]'(by omega), _, 1, _, rfl, rfl, SqT.of f1, atI_nat (j := 1) (get_int (by omega)), _, rfl, ps[r.b]'(by omega), _, 1, _, rfl, rfl, SqT.of f2, atI_nat (j := 1) (get_int (by omega)), _, _, rfl, rfl, _, rfl, _, _, rfl, rfl, sm_mul (sm_le (n := 2) (by decide) (by decide)) (sm_le (n := 24) (show ((r.t : Nat) : Int).natAbs ≤ 24 by omega) (by decide)), _, _, rfl, rfl, z2, fun p np => gen_upd H' p (tp [co ((mkn n rows i).getD r.a []) 0 + co ((mkn n rows i).getD r.b []) 0, co ((mkn n rows i).getD r.a []) 1 + co ((mkn n rows i).getD r.b []) 1 - 2 * (r.t : Int)]) np fun H3 s3 k3 => ⟨D, _, _, rfl, rfl, s3 _ _ hL, ?_, gen_app H3 D _ fun H4 e4 n4 => ?_⟩⟩
      · rw [List.length_map, hps, ml]
        exact small1000 (by have := C.v.len; omega)
      · have nD : ∀ (x : Addr) (l : List Int), H3 x = some (tp l) → x ≠ D := fun x l q z => by
          rw [z, s3 _ _ hL] at q
          cases q
        refine ⟨_, _, _, _, _, rfl, fun x o q => ?_, ps ++ [p], by rw [e4, List.map_append]; rfl, ?_⟩
        · rw [n4 _ (ne_of_none q mD)]
          exact s3 _ _ (sH _ _ q)
        · rw [mkn_succ e]
          refine hF.snoc (fun x l q => ?_) ?_
          · have q3 := s3 _ _ q
            rw [n4 _ (nD _ _ q3)]
            exact q3
          · rw [n4 _ (nD _ _ k3)]
            exact k3
    · obtain ⟨y2, y3, y4, y5, y6, rfl, sH, ps, hL, hF⟩ := hP
      rw [List.length_map, lr] at hF
      exact ⟨_, rfl, q D H' ps (s1.trans sH) hL hF⟩
def spReqTF (C : Addr) : Sp := fun vs H Q _ => ∃ (F : Addr) (f : List Int) (n : Nat), vs = [.ref F] ∧ Fo C H F f ∧ f.length = n + 1 ∧ (n = 5 ∨ n = 6) ∧ Q .non H
theorem ok_require_told_form (T : Facts K mg) : FnOk P w K mg base CX0 3 T.f_require_told_form T.fd_require_told_form ["form"] (spReqTF T.C_Form) := by
  have G_Form_degree := ok_Form_degree (P := P) (w := w) (base := base) T
  refine T.F_require_told_form.ok sc_require_told_form (fun vs H Q E h => ?_) (fun cdv A outer s H vs Q E hr h => ?_)
  · obtain ⟨F, f, n, rfl, _⟩ := h
    rfl
  · obtain ⟨F, f, n, rfl, fo, hl, hn, q⟩ := h
    refine ⟨_, (PSs.nox (pss_one (ps_if (pw_or (pt_not (pt_val (pe_callB (call_isiF T.C_Form) (by rfl) T.z_isinstance (by decide +kernel) (pa_cons (pv 0) (pa_cons (pe_glob (v := .ref T.C_Form) (by rfl) T.g_Form rfl) pa_nil))))) (pw_or1 (pt_cmpR DictT.op_notInDK (pe_prp (pv 0) T.oc_Form T.pr_Form_degree G_Form_degree T.b_Form_degree (hr.mono (by decide))) (pe_glob (v := .ref T.A_TOLD) (by rfl) T.t_TOLD.g rfl) (by rfl)))).pt
      (pss_one ps_never)
      pss_nil))), ?_⟩
    obtain ⟨dx, t, ha, ht⟩ := fo.slt
    refine ⟨_, rfl, isi_form (X := (cxOf CX0 P w K mg base N_require_told_form (Str.ofString "require_told_form") (defScope s_require_told_form) T.f_require_told_form cdv A outer s H E).nox) T.oc_Form ha ⟨true, rfl, iteF ⟨_, rfl, prop_deg fo ⟨_, T.A_TOLD, v_TOLD, rfl, rfl, T.t_TOLD.d, ?_⟩⟩⟩⟩
    rw [show (f.length : Int) - 1 = (n : Int) by omega, look_told hn]
    exact ⟨_, rfl, iteF q⟩
def spToldRows (K : PySem.W.Frag) : Sp := fun vs H Q _ => ∃ n : Nat, vs = [.int n] ∧ (n = 5 ∨ n = 6) ∧ ∀ b, DictT.Rk K b ((toR n).map RTr.row) → Q (.ref b) H
theorem ok_told_rows (T : Facts K mg) : FnOk P w K mg base CX0 4 T.f_told_rows T.fd_told_rows ["degree"] (spToldRows K) := by
  have G_require_told := ok_require_told (P := P) (w := w) (base := base) T
  refine T.F_told_rows.ok sc_told_rows (fun vs H Q E h => ?_) (fun cdv A outer s H vs Q E hr h => ?_)
  · obtain ⟨n, rfl, _⟩ := h
    rfl
  · obtain ⟨n, rfl, hn, q⟩ := h
    refine ⟨_, (PSs.nox (pss_cons (ps_expr (pe_call G_require_told hr (by rfl) T.g_require_told T.F_require_told.kp T.b_require_told .nil pass0 (pa_cons (pv 0) pa_nil)))
    (pss_one (ps_ret (DictT.pe_dgetK (pe_glob (v := .ref T.A_TOLD) (by rfl) T.t_TOLD.g rfl) (pv 0) (fun _ _ => rfl)))))), ?_⟩
    exact ⟨_, rfl, n, rfl, hn, _, rfl, T.A_TOLD, n, v_TOLD, _, rfl, rfl, T.t_TOLD.d, look_told hn, fun b rk => q b rk⟩
def spMemberMarks : Sp := fun vs H Q _ => ∃ n : Nat, vs = [.int n] ∧ (n = 5 ∨ n = 6) ∧ ∀ p H' (ps : List Addr), Same H H' → H' p = some (.tup (ps.map V.ref)) → Fs H' ps (mkn n (toR n) (toR n).length) → Q (.ref p) H'
theorem ok_member_marks (T : Facts K mg) : FnOk P w K mg base CX0 4 T.f_member_marks T.fd_member_marks ["degree"] spMemberMarks := by
  have G_require_told := ok_require_told (P := P) (w := w) (base := base) T
  have G_marks_of := ok_marks_of (P := P) (w := w) (base := base) T
  refine T.F_member_marks.ok sc_member_marks (fun vs H Q E h => ?_) (fun cdv A outer s H vs Q E hr h => ?_)
  · obtain ⟨n, rfl, _⟩ := h
    rfl
  · obtain ⟨n, rfl, hn, q⟩ := h
    refine ⟨_, (PSs.nox (pss_cons (ps_expr (pe_call G_require_told hr (by rfl) T.g_require_told T.F_require_told.kp T.b_require_told .nil pass0 (pa_cons (pv 0) pa_nil)))
    (pss_one (ps_ret (pe_tupleOf (by rfl) T.z_tuple (pe_call G_marks_of (hr.mono (by decide)) (by rfl) T.g_marks_of T.F_marks_of.kp T.b_marks_of .nil pass0 (pa_cons (pv 0) pa_nil))))))), ?_⟩
    exact ⟨_, rfl, n, rfl, hn, _, rfl, n, rfl, hn, fun D H1 ps s1 k1 f1 => .inl ⟨D, _, rfl, SqL.of k1, fun p np => q p _ ps (s1.trans (same_upd0 np)) upd_same (f1.same (same_upd0 np))⟩⟩
/-- what told_at gives -/
def spToldAt (C : Addr) : Sp := fun vs H Q _ => ∃ (F : Addr) (f : List Int) (n β : Nat), vs = [.ref F] ∧ Fo C H F f ∧ Bd f n (2 ^ β) ∧ β ≤ 20 ∧ (n = 5 ∨ n = 6) ∧
  ∀ p H' (gs : List Addr), Same H H' → H' p = some (.tup ((F :: gs).map V.ref)) → gs.length = (toR n).length → (∀ (k : Nat) (h : k < gs.length), Fo C H' gs[k] ((fsn f (toR n) (toR n).length).getD (k + 1) [])) → Q (.ref p) H'
theorem ok_told_at (T : Facts K mg) (SP : PySem.SupX.SupP P "/claim/cut.py") : FnOk P w K mg base CX0 9 T.f_told_at T.fd_told_at ["form"] (spToldAt T.C_Form) := by
  have G_require_told_form := ok_require_told_form (P := P) (w := w) (base := base) T
  have G_Form_degree := ok_Form_degree (P := P) (w := w) (base := base) T
  have G_run_rows := ok_run_rows (P := P) (w := w) (base := base) T SP
  refine T.F_told_at.ok sc_told_at (fun vs H Q E h => ?_) (fun cdv A outer s H vs Q E hr h => ?_)
  · obtain ⟨F, f, n, β, rfl, _⟩ := h
    rfl
  · obtain ⟨F, f, n, β, rfl, fo, bf, hβ, hn, q⟩ := h
    refine ⟨_, (PSs.nox (pss_cons (ps_expr (pe_call G_require_told_form (hr.mono (by decide)) (by rfl) T.g_require_told_form T.F_require_told_form.kp T.b_require_told_form .nil pass0 (pa_cons (pv 0) pa_nil)))
    (pss_one (ps_ret (pe_callS G_run_rows hr (by rfl) T.g_run_rows T.F_run_rows.kp T.b_run_rows (fun σ => passAt takes0 σ) (pa_cons (DictT.pe_dgetK (pe_glob (v := .ref T.A_TOLD) (by rfl) T.t_TOLD.g rfl) (pe_prp (pv 0) T.oc_Form T.pr_Form_degree G_Form_degree T.b_Form_degree (hr.mono (by decide))) (fun _ _ => rfl)) (pa_cons (pv 0) pa_nil))))))), ?_⟩
    have C := toR_chk hn
    refine ⟨_, rfl, F, f, n, rfl, fo, bf.len, hn, _, rfl, prop_deg fo ⟨T.A_TOLD, _, v_TOLD, (toR n).map RTr.row, rfl, rfl, T.t_TOLD.d, ?_, fun b rk => ?_⟩⟩
    · rw [show (f.length : Int) - 1 = (n : Int) by have := bf.len; omega]
      exact look_told hn
    · exact ⟨_, rfl, b, F, toR n, f, n, β, rfl, rws_rk rk H, C.v, fo, bf, hβ, by omega, fun i hb => (hb.not_good hb.lt (C.g f bf.len)).elim, fun gd p H' gs s' hp hl hf => q p H' gs s' hp hl hf⟩
end
end K40

set_option Elab.async false
set_option linter.all false
set_option maxRecDepth 100000
set_option maxHeartbeats 4000000
namespace K40
open PySem PySem.Spec PyProof.Rows L2 StX RZ MyR SlX OwnR OwnF EnumT
/-! ### lists of triples, displayed -/
def At (H : Hp) (rs : List Addr) (rows : List RTr) : Prop := rs.length = rows.length ∧ ∀ (i : Nat) (h : i < rs.length) (r : RTr), rows[i]? = some r → H rs[i] = some (tp r.row)
theorem At.same {H H' : Hp} {rs : List Addr} {rows : List RTr} (h : At H rs rows) (s : Same H H') : At H' rs rows := ⟨h.1, fun i hi r hr => s _ _ (h.2 i hi r hr)⟩
theorem At.app {H : Hp} {rs ss : List Addr} {rows tows : List RTr} (h : At H rs rows) (g : At H ss tows) : At H (rs ++ ss) (rows ++ tows) := by
  refine ⟨by rw [List.length_append, List.length_append, h.1, g.1], fun i hi r hr => ?_⟩
  by_cases c : i < rs.length
  · rw [List.getElem_append_left c]
    rw [List.getElem?_append_left (by rw [← h.1]; exact c)] at hr
    exact h.2 i c r hr
  · rw [List.getElem_append_right (by omega)]
    rw [List.getElem?_append_right (by rw [← h.1]; omega)] at hr
    rw [List.length_append] at hi
    have := g.2 (i - rs.length) (by omega) r (by rw [h.1]; exact hr)
    exact this
theorem row_cons (r : RTr) {a b c : Int} {tr : TA} {σ : L2.St} {H0 H : Hp} {Q : List V → Hp → Prop} {rs : List Addr} {rows : List RTr} (e : [V.int a, V.int b, V.int c] = r.row.map V.int) (s : Same H0 H) (h : At H rs rows) (q : ∀ p H', Same H0 H' → At H' (rs ++ [p]) (rows ++ [r]) → tr σ H' fun xs H2 => Q (V.ref p :: xs) H2) : tCons (tTup (tCons (tC (V.int a)) (tCons (tC (V.int b)) (tCons (tC (V.int c)) tNil)))) tr σ H Q := by
  refine ⟨by show 3 ≤ sizeLine; decide, fun p np => gen_upd H p (.tup [V.int a, V.int b, V.int c]) np fun H1 s1 k1 => q p H1 (s.trans s1) ((h.same s1).app ⟨rfl, fun i hi x hx => ?_⟩)⟩
  have ei : i = 0 := by simp at hi; omega
  subst ei
  have : r = x := Option.some.inj hx
  subst this
  rw [e] at k1
  exact k1
theorem At.nil (H : Hp) : At H [] [] := ⟨rfl, fun i h => absurd h (Nat.not_lt_zero i)⟩
/-- the lists of two lists, joined -/
theorem cat_refs {a b : Addr} {rs ss : List Addr} {H : Hp} {rows tows : List RTr} {Q : VK} (ha : H a = some (.lst (rs.map V.ref))) (hb : H b = some (.lst (ss.map V.ref))) (h1 : At H rs rows) (h2 : At H ss tows) (hl : rows.length + tows.length ≤ 1000) (q : ∀ (D : Addr) (qs : List Addr) (H' : Hp), Same H H' → H' D = some (.lst (qs.map V.ref)) → At H' qs (rows ++ tows) → Q (.ref D) H') : rCat (.ref a) (.ref b) H Q := by
  refine ⟨a, b, _, _, rfl, rfl, ha, hb, ?_, fun p np => gen_upd H p _ np fun H1 s1 k1 => q p (rs ++ ss) H1 s1 (by rw [k1, List.map_append]) ((h1.app h2).same s1)⟩
  rw [List.length_map, List.length_map, h1.1, h2.1]
  exact Nat.le_trans hl (by decide)
section
variable {P : Program} {w : World} {K : PySem.W.Frag} {mg : Str → Option Value} {base : Heap}
def spRowL : Sp := fun vs H Q _ => ∃ n : Nat, vs = [.int n] ∧ (n = 5 ∨ n = 6) ∧ ∀ (D : Addr) (rs : List Addr) (H' : Hp), Same H H' → H' D = some (.lst (rs.map V.ref)) → At H' rs (toR n) → Q (.ref D) H'
theorem ok_law_told_row_list (T : Facts K mg) : FnOk P w K mg base CX0 1 T.f_law_told_row_list T.fd_law_told_row_list ["_law_degree"] spRowL := by
  refine T.F_law_told_row_list.ok sc_law_told_row_list (fun vs H Q E h => ?_) (fun cdv A outer s H vs Q E hr h => ?_)
  · obtain ⟨n, rfl, _⟩ := h
    rfl
  · obtain ⟨n, rfl, hn, q⟩ := h
    refine ⟨_, (PSs.nox (pss_cons (ps_if (pt_cmpR op_eq (pv 0) pe_int (nomark _))
      (pss_cons (ps_set (i := 1) sc_law_told_row_list.nd rfl (.inl rfl) (pe_lst (pa_cons (pe_tup (pa_cons pe_int (pa_cons pe_int (pa_cons pe_int pa_nil)))) (pa_cons (pe_tup (pa_cons pe_int (pa_cons pe_int (pa_cons pe_int pa_nil)))) (pa_cons (pe_tup (pa_cons pe_int (pa_cons pe_int (pa_cons pe_int pa_nil)))) (pa_cons (pe_tup (pa_cons pe_int (pa_cons pe_int (pa_cons pe_int pa_nil)))) (pa_cons (pe_tup (pa_cons pe_int (pa_cons pe_int (pa_cons pe_int pa_nil)))) (pa_cons (pe_tup (pa_cons pe_int (pa_cons pe_int (pa_cons pe_int pa_nil)))) (pa_cons (pe_tup (pa_cons pe_int (pa_cons pe_int (pa_cons pe_int pa_nil)))) (pa_cons (pe_tup (pa_cons pe_int (pa_cons pe_int (pa_cons pe_int pa_nil)))) (pa_cons (pe_tup (pa_cons pe_int (pa_cons pe_int (pa_cons pe_int pa_nil)))) pa_nil)))))))))))
      (pss_one (ps_ret (pe_op op_cat (pv 1) (pe_lst (pa_cons (pe_tup (pa_cons pe_int (pa_cons pe_int (pa_cons pe_int pa_nil)))) (pa_cons (pe_tup (pa_cons pe_int (pa_cons pe_int (pa_cons pe_int pa_nil)))) (pa_cons (pe_tup (pa_cons pe_int (pa_cons pe_int (pa_cons pe_int pa_nil)))) (pa_cons (pe_tup (pa_cons pe_int (pa_cons pe_int (pa_cons pe_int pa_nil)))) (pa_cons (pe_tup (pa_cons pe_int (pa_cons pe_int (pa_cons pe_int pa_nil)))) (pa_cons (pe_tup (pa_cons pe_int (pa_cons pe_int (pa_cons pe_int pa_nil)))) (pa_cons (pe_tup (pa_cons pe_int (pa_cons pe_int (pa_cons pe_int pa_nil)))) (pa_cons (pe_tup (pa_cons pe_int (pa_cons pe_int (pa_cons pe_int pa_nil)))) (pa_cons (pe_tup (pa_cons pe_int (pa_cons pe_int (pa_cons pe_int pa_nil)))) pa_nil))))))))))))))
      pss_nil)
    (pss_cons (ps_set (i := 1) sc_law_told_row_list.nd rfl (.inl rfl) (pe_lst (pa_cons (pe_tup (pa_cons pe_int (pa_cons pe_int (pa_cons pe_int pa_nil)))) (pa_cons (pe_tup (pa_cons pe_int (pa_cons pe_int (pa_cons pe_int pa_nil)))) (pa_cons (pe_tup (pa_cons pe_int (pa_cons pe_int (pa_cons pe_int pa_nil)))) (pa_cons (pe_tup (pa_cons pe_int (pa_cons pe_int (pa_cons pe_int pa_nil)))) (pa_cons (pe_tup (pa_cons pe_int (pa_cons pe_int (pa_cons pe_int pa_nil)))) (pa_cons (pe_tup (pa_cons pe_int (pa_cons pe_int (pa_cons pe_int pa_nil)))) (pa_cons (pe_tup (pa_cons pe_int (pa_cons pe_int (pa_cons pe_int pa_nil)))) (pa_cons (pe_tup (pa_cons pe_int (pa_cons pe_int (pa_cons pe_int pa_nil)))) (pa_cons (pe_tup (pa_cons pe_int (pa_cons pe_int (pa_cons pe_int pa_nil)))) pa_nil)))))))))))
    (pss_cons (ps_set (i := 1) sc_law_told_row_list.nd rfl (.inl rfl) (pe_op op_cat (pv 1) (pe_lst (pa_cons (pe_tup (pa_cons pe_int (pa_cons pe_int (pa_cons pe_int pa_nil)))) (pa_cons (pe_tup (pa_cons pe_int (pa_cons pe_int (pa_cons pe_int pa_nil)))) (pa_cons (pe_tup (pa_cons pe_int (pa_cons pe_int (pa_cons pe_int pa_nil)))) (pa_cons (pe_tup (pa_cons pe_int (pa_cons pe_int (pa_cons pe_int pa_nil)))) (pa_cons (pe_tup (pa_cons pe_int (pa_cons pe_int (pa_cons pe_int pa_nil)))) (pa_cons (pe_tup (pa_cons pe_int (pa_cons pe_int (pa_cons pe_int pa_nil)))) (pa_cons (pe_tup (pa_cons pe_int (pa_cons pe_int (pa_cons pe_int pa_nil)))) (pa_cons (pe_tup (pa_cons pe_int (pa_cons pe_int (pa_cons pe_int pa_nil)))) pa_nil)))))))))))
    (pss_one (ps_ret (pe_op op_cat (pv 1) (pe_lst (pa_cons (pe_tup (pa_cons pe_int (pa_cons pe_int (pa_cons pe_int pa_nil)))) (pa_cons (pe_tup (pa_cons pe_int (pa_cons pe_int (pa_cons pe_int pa_nil)))) pa_nil)))))))))), ?_⟩
    refine ⟨_, rfl, rfl, _, rfl, ?_⟩
    rcases hn with rfl | rfl
    · rw [decide_eq_true (show V.int ((5 : Nat) : Int) = V.int 5 from rfl)]
      refine iteT ?_
      dsimp only [tNext, tSeq, tAsg, tRet, tOp, tLst]
      refine row_cons ⟨0, 0, 4⟩ rfl (Same.rf H) (At.nil _) fun pa0 Ha0 sa0 ha0 => ?_
      refine row_cons ⟨0, 0, 2⟩ rfl sa0 ha0 fun pa1 Ha1 sa1 ha1 => ?_
      refine row_cons ⟨0, 1, 2⟩ rfl sa1 ha1 fun pa2 Ha2 sa2 ha2 => ?_
      refine row_cons ⟨0, 1, 1⟩ rfl sa2 ha2 fun pa3 Ha3 sa3 ha3 => ?_
      refine row_cons ⟨0, 2, 1⟩ rfl sa3 ha3 fun pa4 Ha4 sa4 ha4 => ?_
      refine row_cons ⟨0, 4, 5⟩ rfl sa4 ha4 fun pa5 Ha5 sa5 ha5 => ?_
      refine row_cons ⟨0, 3, 2⟩ rfl sa5 ha5 fun pa6 Ha6 sa6 ha6 => ?_
      refine row_cons ⟨0, 3, 1⟩ rfl sa6 ha6 fun pa7 Ha7 sa7 ha7 => ?_
      refine row_cons ⟨0, 7, 4⟩ rfl sa7 ha7 fun pa8 Ha8 sa8 ha8 => ?_
      refine ⟨by show 9 ≤ sizeLine; decide, fun Da ma => gen_upd Ha8 Da (.lst ([pa0, pa1, pa2, pa3, pa4, pa5, pa6, pa7, pa8].map V.ref)) ma fun Ka ta ka => ?_⟩
      have ga : At Ka [pa0, pa1, pa2, pa3, pa4, pa5, pa6, pa7, pa8] [⟨0, 0, 4⟩, ⟨0, 0, 2⟩, ⟨0, 1, 2⟩, ⟨0, 1, 1⟩, ⟨0, 2, 1⟩, ⟨0, 4, 5⟩, ⟨0, 3, 2⟩, ⟨0, 3, 1⟩, ⟨0, 7, 4⟩] := ha8.same ta
      have za : Same H Ka := sa8.trans ta
      clear sa0 ha0 sa1 ha1 sa2 ha2 sa3 ha3 sa4 ha4 sa5 ha5 sa6 ha6 sa7 ha7 sa8 ha8 ta
      refine ⟨_, rfl, ?_⟩
      dsimp only [tNext, tSeq, tAsg, tRet, tOp, tLst]
      refine row_cons ⟨0, 7, 3⟩ rfl (Same.rf Ka) (At.nil _) fun pb0 Hb0 sb0 hb0 => ?_
      refine row_cons ⟨0, 7, 1⟩ rfl sb0 hb0 fun pb1 Hb1 sb1 hb1 => ?_
      refine row_cons ⟨0, 10, 3⟩ rfl sb1 hb1 fun pb2 Hb2 sb2 hb2 => ?_
      refine row_cons ⟨0, 9, 1⟩ rfl sb2 hb2 fun pb3 Hb3 sb3 hb3 => ?_
      refine row_cons ⟨0, 13, 4⟩ rfl sb3 hb3 fun pb4 Hb4 sb4 hb4 => ?_
      refine row_cons ⟨0, 12, 1⟩ rfl sb4 hb4 fun pb5 Hb5 sb5 hb5 => ?_
      refine row_cons ⟨0, 15, 5⟩ rfl sb5 hb5 fun pb6 Hb6 sb6 hb6 => ?_
      refine row_cons ⟨0, 15, 4⟩ rfl sb6 hb6 fun pb7 Hb7 sb7 hb7 => ?_
      refine row_cons ⟨0, 17, 2⟩ rfl sb7 hb7 fun pb8 Hb8 sb8 hb8 => ?_
      refine ⟨by show 9 ≤ sizeLine; decide, fun Db mb => gen_upd Hb8 Db (.lst ([pb0, pb1, pb2, pb3, pb4, pb5, pb6, pb7, pb8].map V.ref)) mb fun Kb tb kb => ?_⟩
      have gb : At Kb [pb0, pb1, pb2, pb3, pb4, pb5, pb6, pb7, pb8] [⟨0, 7, 3⟩, ⟨0, 7, 1⟩, ⟨0, 10, 3⟩, ⟨0, 9, 1⟩, ⟨0, 13, 4⟩, ⟨0, 12, 1⟩, ⟨0, 15, 5⟩, ⟨0, 15, 4⟩, ⟨0, 17, 2⟩] := hb8.same tb
      have zb : Same Ka Kb := sb8.trans tb
      clear sb0 hb0 sb1 hb1 sb2 hb2 sb3 hb3 sb4 hb4 sb5 hb5 sb6 hb6 sb7 hb7 sb8 hb8 tb
      exact cat_refs (zb _ _ ka) kb (ga.same zb) gb (by decide) fun D3 qs H3 s3 k3 h3 => q D3 qs H3 (za.trans (zb.trans s3)) k3 h3
    · rw [decide_eq_false (show ¬ V.int ((6 : Nat) : Int) = V.int 5 from fun e => absurd (V.int.inj e) (by decide))]
      refine iteF ?_
      dsimp only [tNext, tSeq, tAsg, tRet, tOp, tLst]
      refine row_cons ⟨0, 0, 6⟩ rfl (Same.rf H) (At.nil _) fun pa0 Ha0 sa0 ha0 => ?_
      refine row_cons ⟨0, 0, 4⟩ rfl sa0 ha0 fun pa1 Ha1 sa1 ha1 => ?_
      refine row_cons ⟨0, 0, 2⟩ rfl sa1 ha1 fun pa2 Ha2 sa2 ha2 => ?_
      refine row_cons ⟨0, 2, 4⟩ rfl sa2 ha2 fun pa3 Ha3 sa3 ha3 => ?_
      refine row_cons ⟨0, 2, 2⟩ rfl sa3 ha3 fun pa4 Ha4 sa4 ha4 => ?_
      refine row_cons ⟨0, 2, 1⟩ rfl sa4 ha4 fun pa5 Ha5 sa5 ha5 => ?_
      refine row_cons ⟨0, 3, 1⟩ rfl sa5 ha5 fun pa6 Ha6 sa6 ha6 => ?_
      refine row_cons ⟨0, 5, 6⟩ rfl sa6 ha6 fun pa7 Ha7 sa7 ha7 => ?_
      refine row_cons ⟨0, 4, 2⟩ rfl sa7 ha7 fun pa8 Ha8 sa8 ha8 => ?_
      refine ⟨by show 9 ≤ sizeLine; decide, fun Da ma => gen_upd Ha8 Da (.lst ([pa0, pa1, pa2, pa3, pa4, pa5, pa6, pa7, pa8].map V.ref)) ma fun Ka ta ka => ?_⟩
      have ga : At Ka [pa0, pa1, pa2, pa3, pa4, pa5, pa6, pa7, pa8] [⟨0, 0, 6⟩, ⟨0, 0, 4⟩, ⟨0, 0, 2⟩, ⟨0, 2, 4⟩, ⟨0, 2, 2⟩, ⟨0, 2, 1⟩, ⟨0, 3, 1⟩, ⟨0, 5, 6⟩, ⟨0, 4, 2⟩] := ha8.same ta
      have za : Same H Ka := sa8.trans ta
      clear sa0 ha0 sa1 ha1 sa2 ha2 sa3 ha3 sa4 ha4 sa5 ha5 sa6 ha6 sa7 ha7 sa8 ha8 ta
      refine ⟨_, rfl, ?_⟩
      dsimp only [tNext, tSeq, tAsg, tRet, tOp, tLst]
      refine row_cons ⟨0, 4, 1⟩ rfl (Same.rf Ka) (At.nil _) fun pb0 Hb0 sb0 hb0 => ?_
      refine row_cons ⟨0, 5, 1⟩ rfl sb0 hb0 fun pb1 Hb1 sb1 hb1 => ?_
      refine row_cons ⟨0, 9, 4⟩ rfl sb1 hb1 fun pb2 Hb2 sb2 hb2 => ?_
      refine row_cons ⟨0, 9, 3⟩ rfl sb2 hb2 fun pb3 Hb3 sb3 hb3 => ?_
      refine row_cons ⟨0, 9, 1⟩ rfl sb3 hb3 fun pb4 Hb4 sb4 hb4 => ?_
      refine row_cons ⟨2, 9, 4⟩ rfl sb4 hb4 fun pb5 Hb5 sb5 hb5 => ?_
      refine row_cons ⟨0, 12, 1⟩ rfl sb5 hb5 fun pb6 Hb6 sb6 hb6 => ?_
      refine row_cons ⟨0, 13, 2⟩ rfl sb6 hb6 fun pb7 Hb7 sb7 hb7 => ?_
      refine ⟨by show 8 ≤ sizeLine; decide, fun Db mb => gen_upd Hb7 Db (.lst ([pb0, pb1, pb2, pb3, pb4, pb5, pb6, pb7].map V.ref)) mb fun Kb tb kb => ?_⟩
      have gb : At Kb [pb0, pb1, pb2, pb3, pb4, pb5, pb6, pb7] [⟨0, 4, 1⟩, ⟨0, 5, 1⟩, ⟨0, 9, 4⟩, ⟨0, 9, 3⟩, ⟨0, 9, 1⟩, ⟨2, 9, 4⟩, ⟨0, 12, 1⟩, ⟨0, 13, 2⟩] := hb7.same tb
      have zb : Same Ka Kb := sb7.trans tb
      clear sb0 hb0 sb1 hb1 sb2 hb2 sb3 hb3 sb4 hb4 sb5 hb5 sb6 hb6 sb7 hb7 tb
      refine cat_refs (zb _ _ ka) kb (ga.same zb) gb (by decide) fun D3 qs H3 s3 k3 h3 => ?_
      refine ⟨_, rfl, ?_⟩
      dsimp only [tNext, tSeq, tAsg, tRet, tOp, tLst]
      refine row_cons ⟨0, 16, 5⟩ rfl (Same.rf H3) (At.nil _) fun pc0 Hc0 sc0 hc0 => ?_
      refine row_cons ⟨0, 16, 4⟩ rfl sc0 hc0 fun pc1 Hc1 sc1 hc1 => ?_
      refine ⟨by show 2 ≤ sizeLine; decide, fun Dc mc => gen_upd Hc1 Dc (.lst ([pc0, pc1].map V.ref)) mc fun Kc tc kc => ?_⟩
      have gc : At Kc [pc0, pc1] [⟨0, 16, 5⟩, ⟨0, 16, 4⟩] := hc1.same tc
      have zc : Same H3 Kc := sc1.trans tc
      clear sc0 hc0 sc1 hc1 tc
      exact cat_refs (zc _ _ k3) kc (h3.same zc) gc (by decide) fun D5 qs5 H5 s5 k5 h5 => q D5 qs5 H5 (za.trans (zb.trans (s3.trans (zc.trans s5)))) k5 h5
def spOwnMarks : Sp := fun vs H Q _ => ∃ n : Nat, vs = [.int n] ∧ (n = 5 ∨ n = 6) ∧ ∀ D H' (ps : List Addr), Same H H' → H' D = some (.lst (ps.map V.ref)) → Fs H' ps (mkn n (toR n) (toR n).length) → Q (.ref D) H'
theorem ok_law_marks_of (T : Facts K mg) : FnOk P w K mg base CX0 2 T.f_law_marks_of T.fd_law_marks_of ["_law_degree"] spOwnMarks := by
  have G_law_told_row_list := ok_law_told_row_list (P := P) (w := w) (base := base) T
  refine T.F_law_marks_of.ok sc_law_marks_of (fun vs H Q E h => ?_) (fun cdv A outer s H vs Q E hr h => ?_)
  · obtain ⟨n, rfl, _⟩ := h
    rfl
  · obtain ⟨n, rfl, hn, q⟩ := h
    refine ⟨_, (PSs.nox (pss_cons (ps_set (i := 1) sc_law_marks_of.nd rfl (.inl rfl) (pe_lst (pa_cons (pe_tup (pa_cons pe_int (pa_cons (pv 0) pa_nil))) pa_nil)))
    (pss_cons (ps_for PassesOwn.never (by rfl) (pi_list (pe_call G_law_told_row_list hr (by rfl) T.g_law_told_row_list T.F_law_told_row_list.kp T.b_law_told_row_list .nil pass0 (pa_cons (pv 0) pa_nil))) (pg_tup (by rfl) (pgs_cons (pg_name (i := 2) sc_law_marks_of.nd rfl (.inl rfl)) (pgs_cons (pg_name (i := 3) sc_law_marks_of.nd rfl (.inl rfl)) (pgs_cons (pg_name (i := 4) sc_law_marks_of.nd rfl (.inl rfl)) pgs_nil))))
      (pss_cons (ps_par (i := 5) (j := 6) (by rfl) sc_law_marks_of.nd rfl rfl (by decide) rfl rfl (pa_cons (pe_ix ix_list (pv 1) (pv 2) (fun _ _ => rfl)) (pa_cons (pe_ix ix_list (pv 1) (pv 3) (fun _ _ => rfl)) pa_nil)) (by rfl))
      (pss_one (ps_expr (pe_bm PySem.F.plainAttrs_list PySem.F.slot_list_append PySem.F.type_list_append mt_append (pv 1) (pa_cons (pe_tup (pa_cons (pe_op op_add (pe_ix ix_tup (pv 5) pe_int (fun _ _ => rfl)) (pe_ix ix_tup (pv 6) pe_int (fun _ _ => rfl))) (pa_cons (pe_op op_sub (pe_op op_add (pe_ix ix_tup (pv 5) pe_int (fun _ _ => rfl)) (pe_ix ix_tup (pv 6) pe_int (fun _ _ => rfl))) (pe_op op_mulW pe_int (pv 4))) pa_nil))) pa_nil))))))
    (pss_one (ps_ret (pv 1)))))), ?_⟩
    have C := toR_chk hn
    have z1 : 1 ≤ sizeLine := by decide
    have z2 : 2 ≤ sizeLine := by decide
    have hl18 : 2 ≤ (toR n).length := by rcases hn with rfl | rfl <;> decide
    refine ⟨_, rfl, z2, fun p0 m0 => gen_upd H p0 (tp [1, (n : Int)]) m0 fun H1 s1 k1 => ⟨z1, fun D mD => gen_upd H1 D (.lst ([p0].map V.ref)) mD fun H2 s2 k2 => ?_⟩⟩
    refine ⟨_, rfl, n, rfl, hn, fun L rs H3 s3 kL hA => ?_⟩
    generalize toR n = rows at C hA q hl18
    obtain ⟨lr, hrow⟩ := hA
    have kD := s3 _ _ k2
    have neL : L ≠ D := fun z => by
      rw [z, kD] at kL
      have h1 := congrArg List.length (HO.lst.inj (Option.some.inj kL))
      rw [List.length_map, List.length_map, lr] at h1
      have h1 : 1 = rows.length := h1
      omega
    have s13 : Same H1 H3 := s2.trans s3
    have neT : ∀ {b : Addr} {xs : List V}, H3 b = some (.tup xs) → b ≠ D := fun e z => by
      rw [z, kD] at e
      cases e
    have neO : ∀ {b : Addr} {o : HO}, H1 b = some o → b ≠ D := fun e => ne_of_none e mD
    refine ⟨L, rfl, ⟨_, SqL.of kL⟩, for_list (xs := rs.map V.ref) (fun i σ H' => ∃ y2 y3 y4 y5 y6, σ = [some (.int (n : Int)), some (.ref D), y2, y3, y4, y5, y6] ∧ Sx D H3 H' ∧ ∃ ps : List Addr, H' D = some (.lst (ps.map V.ref)) ∧ Fs H' ps (mkn n rows i)) ⟨none, none, none, none, none, rfl, Sx.refl D H3, [p0], kD, rfl, fun k hk => ?_⟩ (fun i σ H' _ hP => ?_) (fun i x σ H' hxi hP => ?_) (fun σ H' hP => ?_)⟩
    · have ek : k = 0 := by simp at hk; omega
      subst ek
      exact s13 _ _ k1
    · obtain ⟨y2, y3, y4, y5, y6, _, sH, _⟩ := hP
      exact SqL.of (sH _ _ neL kL)
    · obtain ⟨y2, y3, y4, y5, y6, rfl, sH, ps, hL, hF⟩ := hP
      obtain ⟨hi2, hx⟩ := List.getElem?_eq_some_iff.mp hxi
      rw [List.length_map] at hi2
      rw [List.getElem_map] at hx
      subst hx
      have e : rows[i]? = some rows[i] := List.getElem?_eq_getElem (by omega)
      generalize rows[i] = r at e
      obtain ⟨i1, i2⟩ := C.v.ix i r e
      have ht := C.v.tm r (List.mem_of_getElem? e)
      have hr3 := hrow i hi2 r e
      have hr : SqT K H' rs[i] (r.row.map V.int) := SqT.of (sH _ _ (neT hr3) hr3)
      obtain ⟨ml, m2⟩ := mkn_len (n := n) (rows := rows) i (by omega)
      have hps := hF.1
      have g1 : (ps.map V.ref)[r.a]? = some (.ref (ps[r.a]'(by omega))) := by rw [List.getElem?_map, List.getElem?_eq_getElem (by omega)]; rfl
      have g2 : (ps.map V.ref)[r.b]? = some (.ref (ps[r.b]'(by omega))) := by rw [List.getElem?_map, List.getElem?_eq_getElem (by omega)]; rfl
      have f1 := hF.2 r.a (by omega)
      have f2 := hF.2 r.b (by omega)
      have e1 : ((mkn n rows i).getD r.a []).length = 2 := by
        rw [List.getD_eq_getElem?_getD, List.getElem?_eq_getElem (by omega)]
        exact m2 _ (List.getElem_mem _)
      have e2 : ((mkn n rows i).getD r.b []).length = 2 := by
        rw [List.getD_eq_getElem?_getD, List.getElem?_eq_getElem (by omega)]
        exact m2 _ (List.getElem_mem _)
      refine ⟨rs[i], _, rfl, hr, rfl, _, _, rfl, _, _, rfl, _, _, rfl, rfl, ?_⟩
      refine ⟨_, rfl, _, rfl, D, _, _, _, rfl, rfl, SqL.of hL, atI_nat (j := r.a) g1, _, rfl, _, rfl, D, _, _, _, rfl, rfl, SqL.of hL, atI_nat (j := r.b) g2, _, _, rfl, ?_⟩
      refine ⟨_, rfl, .inl ⟨rfl, _, SqL.of hL⟩, _, rfl, ps[r.a]'(by omega), _, 0, _, rfl, rfl, SqT.of f1, atI_nat (j := 0) (get_int (by omega)), _, rfl, ps[r.b]'(by omega), _, 0, _, rfl, rfl, SqT.of f2, atI_nat (j := 0) (get_int (by omega)), _, _, rfl, rfl, _, rfl, ps[r.a]'(by omega), _, 1, _, rfl, rfl, SqT.of f1, atI_nat (j := 1) (get_int (by omega)), _, rfl, ps[r.b]'(by omega), _, 1, _, rfl, rfl, SqT.of f2, atI_nat (j := 1) (get_int (by omega)), _, _, rfl, rfl, _, rfl, _, _, rfl, rfl, sm_mul (sm_le (n := 2) (by decide) (by decide)) (sm_le (n := 24) (show ((r.t : Nat) : Int).natAbs ≤ 24 by omega) (by decide)), _, _, rfl, rfl, z2, fun p np => gen_upd H' p (tp [co ((mkn n rows i).getD r.a []) 0 + co ((mkn n rows i).getD r.b []) 0, co ((mkn n rows i).getD r.a []) 1 + co ((mkn n rows i).getD r.b []) 1 - 2 * (r.t : Int)]) np fun H4 s4 k4 => ⟨D, _, _, rfl, rfl, s4 _ _ hL, ?_, gen_app H4 D _ fun H5 e5 n5 => ?_⟩⟩
      · rw [List.length_map, hps, ml]
        exact small1000 (by have := C.v.len; omega)
      · have nD : ∀ (x : Addr) (l : List Int), H4 x = some (tp l) → x ≠ D := fun x l q z => by
          rw [z, s4 _ _ hL] at q
          cases q
        refine ⟨_, _, _, _, _, rfl, fun x o nx q => ?_, ps ++ [p], by rw [e5, List.map_append]; rfl, ?_⟩
        · rw [n5 _ nx]
          exact s4 _ _ (sH _ _ nx q)
        · rw [mkn_succ e]
          refine hF.snoc (fun x l q => ?_) ?_
          · have q3 := s4 _ _ q
            rw [n5 _ (nD _ _ q3)]
            exact q3
          · rw [n5 _ (nD _ _ k4)]
            exact k4
    · obtain ⟨y2, y3, y4, y5, y6, rfl, sH, ps, hL, hF⟩ := hP
      rw [List.length_map, lr] at hF
      exact ⟨_, rfl, q D H' ps (fun b o e => sH _ _ (neO (s1 _ _ e)) (s13 _ _ (s1 _ _ e))) hL hF⟩
def spOwnMem : Sp := fun vs H Q _ => ∃ (b : Addr) (f : List Int) (n β : Nat), vs = [.ref b] ∧ H b = some (tp f) ∧ Bd f n (2 ^ β) ∧ β ≤ 20 ∧ (n = 5 ∨ n = 6) ∧
  ∀ D H' (ps : List Addr), Same H H' → H' D = some (.lst (ps.map V.ref)) → Fs H' ps (fsn f (toR n) (toR n).length) → Q (.ref D) H'
theorem ok_law_members_of (T : Facts K mg) : FnOk P w K mg base CX0 4 T.f_law_members_of T.fd_law_members_of ["_law_entries"] spOwnMem := by
  have G_law_told_row_list := ok_law_told_row_list (P := P) (w := w) (base := base) T
  have G_law_laid := ok_law_laid (P := P) (w := w) (base := base) T
  refine T.F_law_members_of.ok sc_law_members_of (fun vs H Q E h => ?_) (fun cdv A outer s H vs Q E hr h => ?_)
  · obtain ⟨b, f, n, β, rfl, _⟩ := h
    rfl
  · obtain ⟨b, f, n, β, rfl, hb, bf, hβ, hn, q⟩ := h
    refine ⟨_, (PSs.nox (pss_cons (ps_set (i := 1) sc_law_members_of.nd rfl (.inl rfl) (pe_lst (pa_cons (pv 0) pa_nil)))
    (pss_cons (ps_for PassesOwn.never (by rfl) (pi_list (pe_call G_law_told_row_list (hr.mono (by decide)) (by rfl) T.g_law_told_row_list T.F_law_told_row_list.kp T.b_law_told_row_list .nil pass0 (pa_cons (pe_op op_sub (pe_callB call_len_seq (by rfl) T.z_len (by decide +kernel) (pa_cons (pv 0) pa_nil)) pe_int) pa_nil))) (pg_tup (by rfl) (pgs_cons (pg_name (i := 2) sc_law_members_of.nd rfl (.inl rfl)) (pgs_cons (pg_name (i := 3) sc_law_members_of.nd rfl (.inl rfl)) (pgs_cons (pg_name (i := 4) sc_law_members_of.nd rfl (.inl rfl)) pgs_nil))))
      (pss_one (ps_expr (pe_bm PySem.F.plainAttrs_list PySem.F.slot_list_append PySem.F.type_list_append mt_append (pv 1) (pa_cons (pe_call G_law_laid hr (by rfl) T.g_law_laid T.F_law_laid.kp T.b_law_laid .nil pass0 (pa_cons (pe_ix ix_list (pv 1) (pv 2) (fun _ _ => rfl)) (pa_cons (pe_ix ix_list (pv 1) (pv 3) (fun _ _ => rfl)) (pa_cons (pv 4) pa_nil)))) pa_nil)))))
    (pss_one (ps_ret (pv 1)))))), ?_⟩
    have C := toR_chk hn
    have z1 : 1 ≤ sizeLine := by decide
    have hl18 : 2 ≤ (toR n).length := by rcases hn with rfl | rfl <;> decide
    have hlen := bf.len
    refine ⟨_, rfl, z1, fun D mD => gen_upd H D (.lst ([b].map V.ref)) mD fun H2 s2 k2 => ?_⟩
    refine ⟨_, rfl, b, _, rfl, .inr (SqT.of (s2 _ _ hb)), _, _, rfl, rfl, n, ?_, hn, fun L rs H3 s3 kL hA => ?_⟩
    · rw [List.length_map]
      show [V.int ((f.length : Int) - 1)] = _
      rw [show (f.length : Int) - 1 = (n : Int) by omega]
    have gd := C.g f hlen
    generalize toR n = rows at C hA q hl18 gd
    obtain ⟨lr, hrow⟩ := hA
    have kD := s3 _ _ k2
    have neL : L ≠ D := fun z => by
      rw [z, kD] at kL
      have h1 := congrArg List.length (HO.lst.inj (Option.some.inj kL))
      rw [List.length_map, List.length_map, lr] at h1
      have h1 : 1 = rows.length := h1
      omega
    have s13 : Same H H3 := s2.trans s3
    have neT : ∀ {b : Addr} {xs : List V}, H3 b = some (.tup xs) → b ≠ D := fun e z => by
      rw [z, kD] at e
      cases e
    have neO : ∀ {b : Addr} {o : HO}, H b = some o → b ≠ D := fun e => ne_of_none e mD
    refine ⟨L, rfl, ⟨_, SqL.of kL⟩, for_list (xs := rs.map V.ref) (fun i σ H' => ∃ y2 y3 y4, σ = [some (.ref b), some (.ref D), y2, y3, y4] ∧ Sx D H3 H' ∧ ∃ ps : List Addr, H' D = some (.lst (ps.map V.ref)) ∧ Fs H' ps (fsn f rows i)) ⟨none, none, none, rfl, Sx.refl D H3, [b], kD, rfl, fun k hk => ?_⟩ (fun i σ H' _ hP => ?_) (fun i x σ H' hxi hP => ?_) (fun σ H' hP => ?_)⟩
    · have ek : k = 0 := by simp at hk; omega
      subst ek
      exact s13 _ _ hb
    · obtain ⟨y2, y3, y4, _, sH, _⟩ := hP
      exact SqL.of (sH _ _ neL kL)
    · obtain ⟨y2, y3, y4, rfl, sH, ps, hL, hF⟩ := hP
      obtain ⟨hi2, hx⟩ := List.getElem?_eq_some_iff.mp hxi
      rw [List.length_map] at hi2
      rw [List.getElem_map] at hx
      subst hx
      have e : rows[i]? = some rows[i] := List.getElem?_eq_getElem (by omega)
      generalize rows[i] = r at e
      obtain ⟨i1, i2⟩ := C.v.ix i r e
      have hr3 := hrow i hi2 r e
      have hr : SqT K H' rs[i] (r.row.map V.int) := SqT.of (sH _ _ (neT hr3) hr3)
      have gi : Good f rows i := fun j r' hj hr' => gd j r' (by omega) hr'
      have ok := gd i r (by omega) e
      have ld := ldOk_rows bf hβ (by omega) C.v (by omega) gi e ok
      have hln := fsn_len (f := f) (rows := rows) i (by omega)
      have hps := hF.1
      have g1 : (ps.map V.ref)[r.a]? = some (.ref (ps[r.a]'(by omega))) := by rw [List.getElem?_map, List.getElem?_eq_getElem (by omega)]; rfl
      have g2 : (ps.map V.ref)[r.b]? = some (.ref (ps[r.b]'(by omega))) := by rw [List.getElem?_map, List.getElem?_eq_getElem (by omega)]; rfl
      have f1 := hF.2 r.a (by omega)
      have f2 := hF.2 r.b (by omega)
      refine ⟨rs[i], _, rfl, hr, rfl, _, _, rfl, _, _, rfl, _, _, rfl, rfl, ?_⟩
      refine ⟨_, rfl, .inl ⟨rfl, _, SqL.of hL⟩, _, rfl, _, rfl, D, _, _, _, rfl, rfl, SqL.of hL, atI_nat (j := r.a) g1, _, rfl, _, rfl, D, _, _, _, rfl, rfl, SqL.of hL, atI_nat (j := r.b) g2, _, rfl, _, _, _, _, r.t, rfl, f1, f2, ld, fun p H4 s4 k4 => ⟨D, _, _, rfl, rfl, s4 _ _ hL, ?_, gen_app H4 D _ fun H5 e5 n5 => ?_⟩⟩
      · rw [List.length_map, hps, hln]
        exact small1000 (by have := C.v.len; omega)
      · have nD : ∀ (x : Addr) (l : List Int), H4 x = some (tp l) → x ≠ D := fun x l q z => by
          rw [z, s4 _ _ hL] at q
          cases q
        refine ⟨_, _, _, rfl, fun x o nx q => ?_, ps ++ [p], by rw [e5, List.map_append]; rfl, ?_⟩
        · rw [n5 _ nx]
          exact s4 _ _ (sH _ _ nx q)
        · rw [fsn_succ e]
          refine hF.snoc (fun x l q => ?_) ?_
          · have q3 := s4 _ _ q
            rw [n5 _ (nD _ _ q3)]
            exact q3
          · rw [n5 _ (nD _ _ k4)]
            exact k4
    · obtain ⟨y2, y3, y4, rfl, sH, ps, hL, hF⟩ := hP
      rw [List.length_map, lr] at hF
      exact ⟨_, rfl, q D H' ps (fun b o e => sH _ _ (neO e) (s13 _ _ e)) hL hF⟩
end
end K40

set_option Elab.async false
set_option linter.all false
set_option maxRecDepth 100000
set_option maxHeartbeats 8000000
namespace K40
open PySem PySem.Spec PyProof.Rows L2 StX RZ MyR SlX OwnR OwnF EnumT
theorem two4 {i : Nat} (h : i < 4000) : 2 ^ i < 2 ^ 4000 := Nat.pow_lt_pow_right (by decide) h
theorem lchOk_W {X Y l : List Int} {n : Nat} (hX : Bd X 1 4) (hY : Bd Y 1 4) (h : Bd l n (2 ^ 1500)) (hn : n ≤ 40) : LchOk X Y l := by
  have hl := h.len
  have lt38 : ∀ {i}, i ≤ 90 → 4 ^ i < 2 ^ 4000 := fun {i} hi => by
    rw [show (4 : Nat) = 2 ^ 2 by decide, ← Nat.pow_mul]
    exact two4 (by omega)
  refine ⟨h.ne, by omega, hX.len, hY.len, fun i hi => (bd_pow hX i).rw (by omega) (lt38 (by omega)), fun i hi => (bd_pow hY i).rw (by omega) (lt38 (by omega)), fun i hi => ?_, fun z hz => Nat.lt_of_le_of_lt (h.mem z hz) (two4 (by decide))⟩
  refine (bd_ml (bd_pow hX (l.length - 1 - i)) (bd_pow hY i)).rw (by omega) ?_
  rw [← Nat.pow_add]
  exact lt38 (by omega)
theorem fsn_zero (f : List Int) (rows : List RTr) : ∀ i, i ≤ rows.length → (fsn f rows i).getD 0 [] = f
  | 0, _ => rfl
  | i + 1, h => by
    have e : rows[i]? = some rows[i] := List.getElem?_eq_getElem (by omega)
    rw [fsn_succ e, getD_left (by rw [fsn_len i (by omega)]; omega)]
    exact fsn_zero f rows i (by omega)
theorem dc_neL {H : Hp} {d D : Addr} {ps : List Addr} (hd : Dc H d) (h : H D = some (.lst (ps.map V.ref))) (hp : 0 < ps.length) : D ≠ d := fun z => by
  obtain ⟨x, y, w, e⟩ := hd
  rw [z, e] at h
  cases ps with
  | nil => cases hp
  | cons p ps => cases h
theorem Fs.sx {H H' : Hp} {d : Addr} {ps : List Addr} {ls : List (List Int)} (h : Fs H ps ls) (hd : Dc H d) (s : Sx d H H') : Fs H' ps ls := ⟨h.1, fun k hk => s _ _ (dc_ne hd (h.2 k hk)) (h.2 k hk)⟩
/-- members' facts by the degree -/
structure Mem (n : Nat) : Prop where
  c : Chk n (toR n)
  dg : ∀ k, k ≤ (toR n).length → ((dgn n (toR n) (toR n).length).getD k 0 : Int) - 1 = co ((mkn n (toR n) (toR n).length).getD k []) 1
  wt : ∀ k, k ≤ (toR n).length → ((n : Int) * co ((mkn n (toR n) (toR n).length).getD k []) 0 - co ((mkn n (toR n) (toR n).length).getD k []) 1).fdiv 2 = ((wtn (toR n) (toR n).length).getD k 0 : Int)
  w72 : ∀ k, k ≤ (toR n).length → (wtn (toR n) (toR n).length).getD k 0 ≤ 72
  s24 : ∀ k, k ≤ (toR n).length → (co ((mkn n (toR n) (toR n).length).getD k []) 0).natAbs ≤ 24
theorem mem_of {n : Nat} (h : n = 5 ∨ n = 6) : Mem n := by
  refine ⟨toR_chk h, fun k hk => ?_, fun k hk => ?_, fun k hk => ?_, fun k hk => ?_⟩ <;> rcases h with rfl | rfl
  · exact (by decide +kernel : ∀ k, k < 19 → ((dgn 5 rows5 18).getD k 0 : Int) - 1 = co ((mkn 5 rows5 18).getD k []) 1) k (Nat.lt_succ_of_le hk)
  · exact (by decide +kernel : ∀ k, k < 20 → ((dgn 6 rows6 19).getD k 0 : Int) - 1 = co ((mkn 6 rows6 19).getD k []) 1) k (Nat.lt_succ_of_le hk)
  · exact (by decide +kernel : ∀ k, k < 19 → ((5 : Int) * co ((mkn 5 rows5 18).getD k []) 0 - co ((mkn 5 rows5 18).getD k []) 1).fdiv 2 = ((wtn rows5 18).getD k 0 : Int)) k (Nat.lt_succ_of_le hk)
  · exact (by decide +kernel : ∀ k, k < 20 → ((6 : Int) * co ((mkn 6 rows6 19).getD k []) 0 - co ((mkn 6 rows6 19).getD k []) 1).fdiv 2 = ((wtn rows6 19).getD k 0 : Int)) k (Nat.lt_succ_of_le hk)
  · exact (by decide +kernel : ∀ k, k < 19 → (wtn rows5 18).getD k 0 ≤ 72) k (Nat.lt_succ_of_le hk)
  · exact (by decide +kernel : ∀ k, k < 20 → (wtn rows6 19).getD k 0 ≤ 72) k (Nat.lt_succ_of_le hk)
  · exact (by decide +kernel : ∀ k, k < 19 → (co ((mkn 5 rows5 18).getD k []) 0).natAbs ≤ 24) k (Nat.lt_succ_of_le hk)
  · exact (by decide +kernel : ∀ k, k < 20 → (co ((mkn 6 rows6 19).getD k []) 0).natAbs ≤ 24) k (Nat.lt_succ_of_le hk)
section
variable {P : Program} {w : World} {K : PySem.W.Frag} {mg : Str → Option Value} {base : Heap}
def spRight2 : Sp := fun vs H Q _ => ∃ (d : Addr) (n : Nat), vs = [.ref d, .int n] ∧ Dc H d ∧ (n = 5 ∨ n = 6) ∧ ∀ H', Sx d H H' → Dc H' d → Q (.bl true) H'
theorem ok_law_right (T : Facts K mg) (SP : PySem.SupX.SupP P "/claim/cut.py") : FnOk P w K mg base CX0 10 T.f_law_right T.fd_law_right ["_law_dice_here", "_law_degree"] spRight2 := by
  have G_law_near : FnOk P w K mg base CX0 2 T.f_law_near T.fd_law_near ["_law_dice_here", "_law_most"] spNear := ok_law_near T
  have G_told_at := ok_told_at (P := P) (w := w) (base := base) T SP
  have G_law_members_of := ok_law_members_of (P := P) (w := w) (base := base) T
  have G_law_marks_of := ok_law_marks_of (P := P) (w := w) (base := base) T
  have G_law_table := ok_law_table (P := P) (w := w) (base := base) T
  have G_law_scaled := ok_law_scaled (P := P) (w := w) (base := base) T
  have G_law_raised := ok_law_raised (P := P) (w := w) (base := base) T
  have G_law_changed := ok_law_changed (P := P) (w := w) (base := base) T
  have G_law_det := ok_law_det (P := P) (w := w) (base := base) T
  have G_Form_init := ok_Form_init (P := P) (w := w) (base := base) T
  have G_Form_entries := ok_Form_entries (P := P) (w := w) (base := base) T
  have G_Form_degree := ok_Form_degree (P := P) (w := w) (base := base) T
  have G_Form_eq := ok_Form_eq (P := P) (w := w) (base := base) T
  refine T.F_law_right.ok sc_law_right (fun vs H Q E h => ?_) (fun cdv A outer s H vs Q E hr h => ?_)
  · obtain ⟨d, n, rfl, _⟩ := h
    rfl
  · obtain ⟨d, n, rfl, hd, hn, q⟩ := h
    refine ⟨_, (PSs.nox (pss_cons (ps_set (i := 2) sc_law_right.nd rfl (.inl rfl) (pe_tupleOf (by rfl) T.z_tuple (pe_lc (own := [("_law_place", 3)]) (g := (gName 3)) (tt := tYes) (by rfl) sc_law_right.nd (pi_range1 (by rfl) T.z_range (pa_cons (pe_op op_add (pv 1) pe_int) pa_nil)) (blkOk_by (N := N_law_right) (sc := defScope s_law_right) (by decide +kernel)) (fun _ _ _ _ _ => (pg_name (i := 3) sc_law_right.nd rfl (.inl rfl))) (fun _ _ _ _ _ => pts_nil) (fun _ _ _ _ _ => (pe_call G_law_near (hr.mono (by decide)) (by rfl) T.g_law_near T.F_law_near.kp T.b_law_near .nil pass0 (pa_cons (pv 0) (pa_cons pe_int pa_nil)))))))
    (pss_cons (ps_par (i := 4) (j := 5) (by rfl) sc_law_right.nd rfl rfl (by decide) rfl rfl (pa_cons (pe_call G_told_at hr (by rfl) T.g_told_at T.F_told_at.kp T.b_told_at .nil pass0 (pa_cons (pe_make T.mk_Form G_Form_init (hr.mono (by decide)) (by rfl) T.g_Form T.b_Form_init .nil pass0 (pa_cons (pv 2) pa_nil)) pa_nil)) (pa_cons (pe_call G_law_members_of (hr.mono (by decide)) (by rfl) T.g_law_members_of T.F_law_members_of.kp T.b_law_members_of .nil pass0 (pa_cons (pv 2) pa_nil)) pa_nil)) (by rfl))
    (pss_cons (ps_if (pw_or (pt_cmpR (op_neD (hu64 hr)) (pe_lc (own := [("_law_member", 6)]) (g := (gName 6)) (tt := tYes) (by rfl) sc_law_right.nd (pi_tup (pv 4)) (blkOk_by (N := N_law_right) (sc := defScope s_law_right) (by decide +kernel)) (fun _ _ _ _ _ => (pg_name (i := 6) sc_law_right.nd rfl (.inl rfl))) (fun _ _ _ _ _ => pts_nil) (fun _ _ _ _ _ => (pe_prp (pv 6) T.oc_Form T.pr_Form_entries G_Form_entries T.b_Form_entries (hr.mono (by decide))))) (pv 5) (nomark _)) (pw_or1 (pt_cmpR (op_neF T.oc_Form T.mt_Form_eq G_Form_eq T.b_Form_eq (hr.mono (by decide))) (pe_ix ix_tup (pv 4) pe_int (fun _ _ => rfl)) (pe_make T.mk_Form G_Form_init (hr.mono (by decide)) (by rfl) T.g_Form T.b_Form_init .nil pass0 (pa_cons (pv 2) pa_nil)) (nomark _)))).pt
      (pss_one (ps_ret pe_bl))
      pss_nil)
    (pss_cons (ps_set (i := 7) sc_law_right.nd rfl (.inl rfl) (pe_call G_law_marks_of (hr.mono (by decide)) (by rfl) T.g_law_marks_of T.F_law_marks_of.kp T.b_law_marks_of .nil pass0 (pa_cons (pv 1) pa_nil)))
    (pss_cons (ps_if (pt_cmpR (op_neD (hu64 hr)) (pe_lc (own := [("_law_member", 6)]) (g := (gName 6)) (tt := tYes) (by rfl) sc_law_right.nd (pi_tup (pv 4)) (blkOk_by (N := N_law_right) (sc := defScope s_law_right) (by decide +kernel)) (fun _ _ _ _ _ => (pg_name (i := 6) sc_law_right.nd rfl (.inl rfl))) (fun _ _ _ _ _ => pts_nil) (fun _ _ _ _ _ => (pe_prp (pv 6) T.oc_Form T.pr_Form_degree G_Form_degree T.b_Form_degree (hr.mono (by decide))))) (pe_lc (own := [("_law_size", 8), ("_law_order", 9)]) (g := (gTup K 2 (gCons (gName 8) (gCons (gName 9) gNil)))) (tt := tYes) (by rfl) sc_law_right.nd (pi_list (pv 7)) (blkOk_by (N := N_law_right) (sc := defScope s_law_right) (by decide +kernel)) (fun _ _ _ _ _ => (pg_tup (by rfl) (pgs_cons (pg_name (i := 8) sc_law_right.nd rfl (.inl rfl)) (pgs_cons (pg_name (i := 9) sc_law_right.nd rfl (.inl rfl)) pgs_nil)))) (fun _ _ _ _ _ => pts_nil) (fun _ _ _ _ _ => (pv 9))) (nomark _))
      (pss_one (ps_ret pe_bl))
      pss_nil)
    (pss_cons (ps_set (i := 10) sc_law_right.nd rfl (.inl rfl) (pe_call G_law_table (hr.mono (by decide)) (by rfl) T.g_law_table T.F_law_table.kp T.b_law_table .nil pass0 (pa_cons (pv 0) (pa_cons pe_int pa_nil))))
    (pss_cons (ps_par (i := 11) (j := 12) (by rfl) sc_law_right.nd rfl rfl (by decide) rfl rfl (pa_cons (pe_call G_law_det (hr.mono (by decide)) (by rfl) T.g_law_det T.F_law_det.kp T.b_law_det .nil pass0 (pa_cons (pv 10) pa_nil)) (pa_cons (pe_call G_told_at hr (by rfl) T.g_told_at T.F_told_at.kp T.b_told_at .nil pass0 (pa_cons (pe_make T.mk_Form G_Form_init (hr.mono (by decide)) (by rfl) T.g_Form T.b_Form_init .nil pass0 (pa_cons (pe_call G_law_changed (hr.mono (by decide)) (by rfl) T.g_law_changed T.F_law_changed.kp T.b_law_changed .nil pass0 (pa_cons (pv 2) (pa_cons (pv 10) pa_nil))) pa_nil)) pa_nil)) pa_nil)) (by rfl))
    (pss_cons (ps_for PassesOwn.never (by rfl) (pi_enum (by rfl) T.z_enumerate (pa_cons (pv 7) pa_nil)) (pg_tup (by rfl) (pgs_cons (pg_name (i := 13) sc_law_right.nd rfl (.inl rfl)) (pgs_cons (pg_tup (by rfl) (pgs_cons (pg_name (i := 8) sc_law_right.nd rfl (.inl rfl)) (pgs_cons (pg_name (i := 9) sc_law_right.nd rfl (.inl rfl)) pgs_nil))) pgs_nil)))
      (pss_cons (ps_set (i := 14) sc_law_right.nd rfl (.inl rfl) (pe_call G_law_raised (hr.mono (by decide)) (by rfl) T.g_law_raised T.F_law_raised.kp T.b_law_raised .nil pass0 (pa_cons (pv 11) (pa_cons (pe_op op_fdivZ (pe_op op_sub (pe_op op_mulW (pv 1) (pv 8)) (pv 9)) pe_int) pa_nil))))
      (pss_one (ps_if (pt_cmpR (op_neD (hu64 hr)) (pe_prp (pe_ix ix_tup (pv 12) (pv 13) (fun _ _ => rfl)) T.oc_Form T.pr_Form_entries G_Form_entries T.b_Form_entries (hr.mono (by decide))) (pe_call G_law_scaled (hr.mono (by decide)) (by rfl) T.g_law_scaled T.F_law_scaled.kp T.b_law_scaled .nil pass0 (pa_cons (pe_call G_law_changed (hr.mono (by decide)) (by rfl) T.g_law_changed T.F_law_changed.kp T.b_law_changed .nil pass0 (pa_cons (pe_ix ix_list (pv 5) (pv 13) (fun _ _ => rfl)) (pa_cons (pv 10) pa_nil))) (pa_cons (pv 14) pa_nil))) (nomark _))
        (pss_one (ps_ret pe_bl))
        pss_nil))))
    (pss_one (ps_ret pe_bl))))))))))), ?_⟩
    have e15 : (10 : Int) ^ 15 = 1000000000000000 := by decide
    refine ⟨_, rfl, _, _, rfl, rfl, _, rfl, (by show -(2 ^ 62) ≤ (n : Int) + 1; omega), (by show (n : Int) + 1 < 2 ^ 62; omega), fun D hD => lc_range (n := ((n : Int) + 1).toNat) (fun j H' => Sx d H H' ∧ Dc H' d ∧ ∃ l : List Int, H' D = some (.lst (l.map V.int)) ∧ l.length = j ∧ ∀ x ∈ l, x.natAbs ≤ 3) ⟨Sx.of (same_upd0 hD), hd.same (same_upd0 hD), [], upd_same, rfl, fun x hx => by cases hx⟩ (fun j H' hj hP => ?_) (fun H' hP => ?_)⟩
    · obtain ⟨sH, dH, l, hL, hl, hb⟩ := hP
      have nD : D ≠ d := hd.ne hD
      refine ⟨rfl, _, rfl, d, 3, rfl, dH, by omega, by rw [e15]; omega, fun r H2 r1 r2 s2 d2 => ⟨_, s2 D _ nD hL, ?_, fun b o hb2 e => ?_, ?_, l ++ [r], ?_, ?_, fun x hx => ?_⟩⟩
      · rw [List.length_map]
        exact small1000 (by omega)
      · rw [upd_ne (ne_of_none e hD)]
        exact (sH.trans s2) b o hb2 e
      · obtain ⟨x, y, z, e⟩ := d2
        exact ⟨x, y, z, by rw [upd_ne (Ne.symm nD)]; exact e⟩
      · rw [upd_same, List.map_append]
        rfl
      · rw [List.length_append, hl]
        rfl
      · rcases List.mem_append.mp hx with e | e
        · exact hb x e
        · rw [List.mem_singleton.mp e]
          omega
    obtain ⟨s1, d1, l, hL, hl, hb⟩ := hP
    refine .inl ⟨D, _, rfl, SqL.of hL, fun t1 m1 => gen_upd H' t1 (tp l) m1 fun H1 s1' k1 => ?_⟩
    have hl : l.length = n + 1 := by omega
    have sI : Sx d H H1 := s1.trans (Sx.of s1')
    have d1 := d1.same s1'
    clear s1 s1' hL hD m1 hd
    have M := mem_of hn
    have C := M.c
    have hn6 : n ≤ 6 := by omega
    have bl0 : Bd l n ((n + 1) * 3) := bd_small hl hb
    have bl : Bd l n (2 ^ 5) := bl0.mono (Nat.le_trans (Nat.mul_le_mul (show n + 1 ≤ 7 by omega) (Nat.le_refl 3)) (by decide))
    have b5 : (2 : Nat) ^ 5 < 10 ^ 60 := by decide
    have bf : Bd l n (2 ^ 20) := bl.mono (by decide)
    have gd := C.g l hl
    obtain ⟨rows, er⟩ : ∃ rows, rows = toR n := ⟨_, rfl⟩
    have lF : (fsn l (toR n) (toR n).length).length = (toR n).length + 1 := fsn_len _ (Nat.le_refl _)
    refine ⟨_, rfl, fun x dx x1 x2 x3 => mkB x1 x2 x3 k1 bl (by omega) b5 fun H2 s2 f2 => ⟨x, l, n, 20, rfl, f2, bf, Nat.le_refl _, hn, fun p H3 gs s3 hp hgl hfo => ?_⟩⟩
    have s13 := s2.trans s3
    have k3 := s13 _ _ k1
    have f3 := f2.same s3
    have d3 := d1.same s13
    have sI := sI.trans (Sx.of s13)
    refine ⟨_, rfl, t1, l, n, 20, rfl, k3, bf, Nat.le_refl _, hn, fun D4 H4 ps s4 hD4 hF4 => ⟨_, _, rfl, ?_⟩⟩
    have k4 := s4 _ _ k3
    have d4 := d3.same s4
    have hp4 := s4 _ _ hp
    have sI := sI.trans (Sx.of s4)
    have hall : ∀ (k : Nat) (h : k < (x :: gs).length), Fo T.C_Form H4 (x :: gs)[k] ((fsn l (toR n) (toR n).length).getD k []) := fun k h => by
      cases k with
      | zero =>
        rw [fsn_zero _ _ _ (Nat.le_refl _)]
        exact f3.same s4
      | succ k => exact (hfo k (by simpa using h)).same s4
    have lall : (x :: gs).length = (toR n).length + 1 := by rw [List.length_cons, hgl]
    clear f2 f3 s2 s3 s4 s13 k1 k3 hfo hp d1 d3
    generalize x :: gs = as at hp4 hall lall
    refine ⟨_, rfl, p, rfl, ⟨_, SqT.of hp4⟩, fun D5 hD5 => lc_tup (xs := as.map V.ref) (fun j H' => Same H4 H' ∧ ∃ ts : List Addr, H' D5 = some (.lst (ts.map V.ref)) ∧ ts.length = j ∧ ∀ (k : Nat) (h : k < ts.length), H' ts[k] = some (tp ((fsn l (toR n) (toR n).length).getD k []))) ⟨same_upd0 hD5, [], upd_same, rfl, fun k hk => absurd hk (Nat.not_lt_zero k)⟩ (fun j H' _ hP => SqT.of (hP.1 _ _ hp4)) (fun j v H' hx hP => ?_) (fun H5 hP => ?_)⟩
    · obtain ⟨sH, ts, hL, htl, hts⟩ := hP
      obtain ⟨hj, hx⟩ := List.getElem?_eq_some_iff.mp hx
      rw [List.length_map] at hj
      rw [List.getElem_map] at hx
      subst hx
      refine ⟨rfl, _, rfl, prop_ent ((hall j hj).same sH) fun t kt => ⟨_, hL, ?_, fun b o e => ?_, ts ++ [t], by rw [upd_same, List.map_append]; rfl, by rw [List.length_append, htl]; rfl, fun k hk => ?_⟩⟩
      · rw [List.length_map]
        exact small1000 (by have := C.v.len; omega)
      · rw [upd_ne (ne_of_none e hD5)]
        exact sH _ _ e
      · have nT : ∀ {y : Addr} {q : List Int}, H' y = some (tp q) → upd H' D5 (.lst (ts.map V.ref ++ [.ref t])) y = some (tp q) := fun {y q} e => by
          rw [upd_ne (fun z => by rw [z, hL] at e; cases e)]
          exact e
        by_cases c : k < ts.length
        · rw [List.getElem_append_left c]
          exact nT (hts k c)
        · have ek : k = ts.length := by rw [List.length_append] at hk; simp at hk; omega
          subst ek
          rw [show (ts ++ [t])[ts.length] = t by rw [List.getElem_append_right (Nat.le_refl _)]; simp, htl]
          exact nT kt
    obtain ⟨s5, ts, hL5, htl, hts⟩ := hP
    rw [List.length_map] at htl
    have hD45 := s5 _ _ hD4
    have hF5 := hF4.same s5
    refine ⟨_, rfl, ne_lrows (n := (toR n).length + 1) (φ := fun k => (fsn l (toR n) (toR n).length).getD k []) (ψ := fun k => (fsn l (toR n) (toR n).length).getD k []) hL5 hD45 (by rw [htl, lall]) (by rw [hF5.1, lF]) hts hF5.2 (fun _ _ => rfl) ⟨false, rfl, iteF ?_⟩⟩
    have k5 := s5 _ _ k4
    have hp5 := s5 _ _ hp4
    have d5 := d4.same s5
    have sI := sI.trans (Sx.of s5)
    have h0 : 0 < as.length := by omega
    have fa0 := (hall 0 h0).same s5
    rw [fsn_zero _ _ _ (Nat.le_refl _)] at fa0
    refine ⟨_, rfl, p, _, 0, _, rfl, rfl, SqT.of hp5, atI_nat (j := 0) (by rw [List.getElem?_map, List.getElem?_eq_getElem h0]; rfl), _, rfl, fun y dy x1 x2 x3 => mkB x1 x2 x3 k5 bl (by omega) b5 fun H6 s6 f6 => ne_forms T.oc_Form (fa0.same s6) f6 ?_⟩
    rw [decide_eq_true rfl]
    refine ⟨false, rfl, iteF ⟨_, rfl, n, rfl, hn, fun D7 H7 ms s7 hD7 hM7 => ?_⟩⟩
    have s47 := s5.trans (s6.trans s7)
    have k7 := s47 _ _ k4
    have hp7 := s47 _ _ hp4
    have d7 := d4.same s47
    have hD47 := s47 _ _ hD4
    have hF7 := hF4.same s47
    have sI := sI.trans (Sx.of (s6.trans s7))
    clear s5 s6 s7 k4 k5 hp5 d4 d5 hD45 hF5 hts hL5 f6 fa0 hD5
    have hall7 : ∀ (k : Nat) (h : k < as.length), Fo T.C_Form H7 as[k] ((fsn l (toR n) (toR n).length).getD k []) := fun k h => (hall k h).same s47
    have hmk := mkn_len (n := n) (rows := toR n) (toR n).length (Nat.le_refl _)
    have hpair : ∀ k, k ≤ (toR n).length → (mkn n (toR n) (toR n).length).getD k [] = [co ((mkn n (toR n) (toR n).length).getD k []) 0, co ((mkn n (toR n) (toR n).length).getD k []) 1] := fun k hk => by
      have h2 : ((mkn n (toR n) (toR n).length).getD k []).length = 2 := by
        rw [List.getD_eq_getElem?_getD, List.getElem?_eq_getElem (by omega)]
        exact hmk.2 _ (List.getElem_mem _)
      generalize (mkn n (toR n) (toR n).length).getD k [] = r at h2
      match r, h2 with
      | [u, v], _ => rfl
    have lms : ms.length = (toR n).length + 1 := by rw [hM7.1, hmk.1]
    have hms : ∀ (k : Nat) (h : k < ms.length), H7 ms[k] = some (tp [co ((mkn n (toR n) (toR n).length).getD k []) 0, co ((mkn n (toR n) (toR n).length).getD k []) 1]) := fun k h => by
      rw [hM7.2 k h]
      exact congrArg (fun z => some (tp z)) (hpair k (by omega))
    clear hM7
    refine ⟨_, rfl, p, rfl, ⟨_, SqT.of hp7⟩, fun D8 hD8 => lc_tup (xs := as.map V.ref) (fun j H' => Same H7 H' ∧ H' D8 = some (.lst (((List.range j).map fun k => (((fsn l (toR n) (toR n).length).getD k []).length : Int) - 1).map V.int))) ⟨same_upd0 hD8, upd_same⟩ (fun j H' _ hP => SqT.of (hP.1 _ _ hp7)) (fun j v H' hx hP => ?_) (fun H8 hP => ?_)⟩
    · obtain ⟨sH, hL⟩ := hP
      obtain ⟨hj, hx⟩ := List.getElem?_eq_some_iff.mp hx
      rw [List.length_map] at hj
      rw [List.getElem_map] at hx
      subst hx
      refine ⟨rfl, _, rfl, prop_deg ((hall7 j hj).same sH) ⟨_, hL, ?_, fun b o e => ?_, ?_⟩⟩
      · rw [List.length_map, List.length_map, List.length_range]
        exact small1000 (by have := C.v.len; omega)
      · rw [upd_ne (ne_of_none e hD8)]
        exact sH _ _ e
      · rw [upd_same, List.range_succ, List.map_append, List.map_append]
        rfl
    obtain ⟨s8, hL8⟩ := hP
    rw [List.length_map] at hL8
    refine ⟨_, rfl, D7, rfl, ⟨_, SqL.of (s8 _ _ hD7)⟩, fun D9 hD9 => lc_list (xs := ms.map V.ref) (fun j H' => Same H8 H' ∧ H' D9 = some (.lst (((List.range j).map fun k => co ((mkn n (toR n) (toR n).length).getD k []) 1).map V.int))) ⟨same_upd0 hD9, upd_same⟩ (fun j H' _ hP => SqL.of (hP.1 _ _ (s8 _ _ hD7))) (fun j v H' hx hP => ?_) (fun H9 hP => ?_)⟩
    · obtain ⟨sH, hL⟩ := hP
      obtain ⟨hj, hx⟩ := List.getElem?_eq_some_iff.mp hx
      rw [List.length_map] at hj
      rw [List.getElem_map] at hx
      subst hx
      refine ⟨ms[j], _, rfl, SqT.of (sH _ _ (s8 _ _ (hms j hj))), rfl, _, _, rfl, _, _, rfl, rfl, rfl, _, rfl, _, hL, ?_, fun b o e => ?_, ?_⟩
      · rw [List.length_map, List.length_map, List.length_range]
        exact small1000 (by have := C.v.len; omega)
      · rw [upd_ne (ne_of_none e hD9)]
        exact sH _ _ e
      · rw [upd_same, List.range_succ, List.map_append, List.map_append]
        rfl
    obtain ⟨s9, hL9⟩ := hP
    rw [List.length_map] at hL9
    refine ne_lints (SqL.of (s9 _ _ hL8)) (SqL.of hL9) ?_
    rw [decide_eq_true (by
      rw [lall, lms]
      refine List.map_congr_left fun k hk => ?_
      have hk := List.mem_range.mp hk
      rw [← M.dg k (by omega), ← getD_map_len, C.d l hl])]
    refine ⟨false, rfl, iteF ?_⟩
    have s79 := s8.trans s9
    have k9 := s79 _ _ k7
    have d9 := d7.same s79
    have hD49 := s79 _ _ hD47
    have hF9 := hF7.same s79
    have hD79 := s79 _ _ hD7
    have hms9 : ∀ (k : Nat) (h : k < ms.length), H9 ms[k] = some (tp [co ((mkn n (toR n) (toR n).length).getD k []) 0, co ((mkn n (toR n) (toR n).length).getD k []) 1]) := fun k h => s79 _ _ (hms k h)
    have sI := sI.trans (Sx.of s79)
    clear s8 s9 hL8 hL9 hD8 hD9 hms hall hall7 hp4 hp7 k7 d7 s79 s47 hF4 hF7 hD4 hD47
    refine ⟨_, rfl, d, 2, rfl, d9, by decide, by decide, fun tb H10 a b c e s10 d10 hT ha hb' hc he hdet => ?_⟩
    have k10 := s10 _ _ (dc_ne d9 k9) k9
    have hF10 := hF9.sx d9 s10
    have hD410 := s10 _ _ (dc_neL d9 hD49 (by rw [hF9.1, lF]; omega)) hD49
    have hD710 := s10 _ _ (dc_neL d9 hD79 (by omega)) hD79
    have hms10 : ∀ (k : Nat) (h : k < ms.length), H10 ms[k] = some (tp [co ((mkn n (toR n) (toR n).length).getD k []) 0, co ((mkn n (toR n) (toR n).length).getD k []) 1]) := fun k h => s10 _ _ (dc_ne d9 (hms9 k h)) (hms9 k h)
    have sI := sI.trans s10
    clear s10 k9 d9 hD49 hF9 hD79 hms9
    have bX : Bd [a, b] 1 4 := (bd_pair ha hb').mono (by decide)
    have bY : Bd [c, e] 1 4 := (bd_pair hc he).mono (by decide)
    have big : ∀ {z : Int}, z.natAbs ≤ 2 → z.natAbs ≤ 1000000 := fun h => by omega
    have hdet8 : (a * e - b * c).natAbs ≤ 8 := by
      have q1 := Nat.mul_le_mul ha he
      have q2 := Nat.mul_le_mul hb' hc
      rw [← Int.natAbs_mul] at q1 q2
      omega
    have p4 : 4 ^ n ≤ 2 ^ 12 := Nat.le_trans (Nat.pow_le_pow_right (by decide) hn6) (by decide)
    have bC5 : Bd (changed [a, b] [c, e] l) n (2 ^ 17) := (changed_bd bX bY bl).mono (Nat.le_trans (Nat.mul_le_mul (Nat.le_refl _) p4) (by decide))
    have bC : Bd (changed [a, b] [c, e] l) n (2 ^ 20) := bC5.mono (by decide)
    have b20 : (2 : Nat) ^ 20 < 10 ^ 60 := by decide
    obtain ⟨gc, ec⟩ := rows_changed C.v a b c e bl.ne gd
    refine ⟨_, rfl, tb, a, b, c, e, rfl, hT, big ha, big hb', big hc, big he, _, rfl, _, rfl, t1, tb, l, [a, b], [c, e], rfl, k10, hT, lchOk_W bX bY (bf.mono (Nat.pow_le_pow_right (by decide) (by decide))) (by omega), fun p11 H11 s11 h11 => fun y dy x1 x2 x3 => mkB x1 x2 x3 h11 bC (by omega) b20 fun H12 s12 f12 => ⟨y, _, n, 20, rfl, f12, bC, Nat.le_refl _, hn, fun p13 H13 us s13 hp13 hgu hfu => ⟨_, _, rfl, ?_⟩⟩⟩
    have s1013 := s11.trans (s12.trans s13)
    have hT13 := hT.same s1013
    have hF13 := hF10.same s1013
    have hD413 := s1013 _ _ hD410
    have hD713 := s1013 _ _ hD710
    have hms13 : ∀ (k : Nat) (h : k < ms.length), H13 ms[k] = some (tp [co ((mkn n (toR n) (toR n).length).getD k []) 0, co ((mkn n (toR n) (toR n).length).getD k []) 1]) := fun k h => s1013 _ _ (hms10 k h)
    have d13 := d10.same s1013
    have sI := sI.trans (Sx.of s1013)
    have hun : ∀ (k : Nat) (h : k < (y :: us).length), Fo T.C_Form H13 (y :: us)[k] ((fsn (changed [a, b] [c, e] l) (toR n) (toR n).length).getD k []) := fun k h => by
      cases k with
      | zero =>
        rw [fsn_zero _ _ _ (Nat.le_refl _)]
        exact f12.same s13
      | succ k => exact hfu k (by simpa using h)
    have lun : (y :: us).length = (toR n).length + 1 := by rw [List.length_cons, hgu]
    clear s11 s12 s13 s1013 f12 hfu h11 hT k10 hF10 hD410 hD710 hms10 d10 x1 x2 x3
    generalize y :: us = vs at hp13 hun lun
    refine ⟨_, rfl, D7, _, rfl, SqL.of hD713, for_enum (xs := ms.map V.ref) (fun i σ H' => ∃ y8 y9 y13 y14, σ = [some (.ref d), some (.int n), some (.ref t1), none, some (.ref p), some (.ref D4), none, some (.ref D7), y8, y9, some (.ref tb), some (.int (a * e - b * c)), some (.ref p13), y13, y14] ∧ Same H13 H') ⟨none, none, none, none, rfl, Same.rf _⟩ (fun i σ H' hP => ?_) (fun i v B σ H' hxi hP hB => ?_) (fun σ H' hP => ?_)⟩
    · obtain ⟨y8, y9, y13, y14, _, sH⟩ := hP
      exact SqL.of (sH _ _ hD713)
    · obtain ⟨y8, y9, y13, y14, rfl, sH⟩ := hP
      obtain ⟨hi2, hx⟩ := List.getElem?_eq_some_iff.mp hxi
      rw [List.length_map] at hi2
      rw [List.getElem_map] at hx
      subst hx
      have hiN : i ≤ (toR n).length := by omega
      have hm2 : upd H' B (.tup [.int (i : Nat), .ref ms[i]]) ms[i] = some (tp [co ((mkn n (toR n) (toR n).length).getD i []) 0, co ((mkn n (toR n) (toR n).length).getD i []) 1]) := same_upd0 hB _ _ (sH _ _ (hms13 i hi2))
      refine ⟨B, _, rfl, SqT.of upd_same, rfl, _, _, rfl, _, _, rfl, ms[i], _, rfl, SqT.of hm2, rfl, _, _, rfl, _, _, rfl, rfl, rfl, ?_⟩
      refine gen_upd H' B _ hB (fun H16 s16 _ => ?_)
      have sK := sH.trans s16
      obtain ⟨dg, hdg, bR⟩ := row_sm bf (Nat.le_refl _) hn6 C.v (Nat.le_refl _) gd hiN
      have lr := bR.len
      have hw := M.w72 i hiN
      have hwt := M.wt i hiN
      have hs24 := M.s24 i hiN
      generalize co ((mkn n (toR n) (toR n).length).getD i []) 0 = sz at hwt hs24
      generalize co ((mkn n (toR n) (toR n).length).getD i []) 1 = od at hwt
      have ecr := ec i hiN
      generalize (wtn (toR n) (toR n).length).getD i 0 = wt at hw hwt ecr
      have smp : ∀ {z : Int} {k : Nat}, z.natAbs ≤ 8 → k ≤ 72 → sm (z ^ k) := fun {z k} hz hk => by
        show (z ^ k).natAbs < 2 ^ 4000
        rw [Int.natAbs_pow]
        refine Nat.lt_of_le_of_lt (Nat.pow_le_pow_left hz k) ?_
        rw [show (8 : Nat) = 2 ^ 3 by decide, ← Nat.pow_mul]
        exact two4 (by omega)
      refine ⟨_, rfl, _, rfl, _, rfl, _, _, rfl, rfl, sm_mul (sm_le (n := 6) (show ((n : Nat) : Int).natAbs ≤ 6 by omega) (by decide)) (sm_le hs24 (by decide)), _, rfl, _, _, rfl, rfl, _, _, rfl, rfl, ⟨by decide, Nat.lt_of_le_of_lt (show (2 : Int).natAbs.log2 ≤ 2 by decide) (by decide)⟩, a * e - b * c, wt, ?_, fun j hj => smp hdet8 (by omega), sm_le hdet8 (by decide), by omega, ?_⟩
      · show [V.int (a * e - b * c), V.int (((n : Int) * sz - od).fdiv 2)] ++ [] = _
        rw [hwt]
        rfl
      have hiv : i < vs.length := by omega
      have hips : i < ps.length := by rw [hF13.1, lF]; omega
      refine ⟨_, rfl, _, rfl, p13, _, _, _, rfl, rfl, SqT.of (sK _ _ hp13), atI_nat (j := i) (by rw [List.getElem?_map, List.getElem?_eq_getElem hiv]; rfl), prop_ent ((hun i hiv).same sK) fun t kt => ?_⟩
      refine ⟨_, rfl, _, rfl, D4, _, _, _, rfl, rfl, SqL.of (sK _ _ hD413), atI_nat (j := i) (by rw [List.getElem?_map, List.getElem?_eq_getElem hips]; rfl), _, rfl, ps[i], tb, _, [a, b], [c, e], rfl, sK _ _ (hF13.2 i hips), hT13.same sK, lchOk_W bX bY bR hdg, fun p6 H18 s18 h6 => ?_⟩
      have bCr : Bd (changed [a, b] [c, e] ((fsn l (toR n) (toR n).length).getD i [])) dg (2 ^ 1500 * 4 ^ dg) := changed_bd bX bY bR
      have lcr := bCr.len
      have b4 : 2 ^ 1500 * 4 ^ dg < 2 ^ 4000 := by
        rw [show (4 : Nat) = 2 ^ 2 by decide, ← Nat.pow_mul, ← Nat.pow_add]
        exact two4 (by omega)
      refine ⟨_, rfl, p6, _, _, rfl, h6, by omega, fun z hz => Nat.lt_of_le_of_lt (bCr.mem z hz) b4, smp hdet8 hw, fun p7 H19 s19 _ h7 => ?_⟩
      have e3 := (s18.trans s19) _ _ kt
      rw [ecr] at e3
      refine ne_same (SqT.of e3) (SqT.of h7) ⟨false, rfl, iteF ?_⟩
      exact ⟨_, _, _, _, rfl, sK.trans (s18.trans s19)⟩
    · obtain ⟨y8, y9, y13, y14, rfl, sH⟩ := hP
      exact q H' (sI.trans (Sx.of sH)) (d13.same sH)
end
end K40

set_option Elab.async false
set_option linter.all false
set_option maxRecDepth 100000
set_option maxHeartbeats 8000000
namespace K40
open PySem PySem.Spec PyProof.Rows L2 StX RZ MyR SlX OwnR OwnF EnumT
theorem f5a : (fsn [1, 0, 0, 0, 1, 0] rows5 18).getD 1 [] = [5760, 0, 0] := by decide +kernel
theorem f5b : (fsn [1, 0, 0, 0, 1, 0] rows5 18).getD 16 [] = [-26418075402240000] := by decide +kernel
theorem f6a : (fsn [0, 1, 0, 0, 0, -1, 0] rows6 19).getD 1 [] = [172800] := by decide +kernel
theorem f6b : ((fsn [0, 1, 0, 0, 0, -1, 0] rows6 19).getD 2 []).any (· != 0) = false := by decide +kernel
theorem m5 : ((List.range 19).filter fun k => co ((mkn 5 rows5 18).getD k []) 1 == 0) = [6, 16] := by decide +kernel
theorem m6 : ((List.range 20).filter fun k => co ((mkn 6 rows6 19).getD k []) 1 == 0) = [1, 8, 15] := by decide +kernel
theorem dpAll_sq {K : PySem.W.Frag} {H : Hp} : ∀ (rs : List Addr) (ls : List (List Int)), rs.length = ls.length → (∀ u (h : u < rs.length), SqT K H rs[u] ((ls.getD u []).map V.int)) → DpAll K H (rs.map V.ref) (TD ls)
  | [], [], _, _ => .nil
  | r :: rs, l :: ls, hn, h => .cons (.tup (h 0 (by simp)) (dpAll_ints _)) (dpAll_sq rs ls (by simpa using hn) fun u hu => h (u + 1) (by simpa using hu))
theorem ne_ltd {K : PySem.W.Frag} {H : Hp} {a b : Addr} {rs ss : List Addr} {ls : List (List Int)} {Q : VK} (ha : H a = some (.lst (rs.map V.ref))) (hb : H b = some (.lst (ss.map V.ref))) (lr : rs.length = ls.length) (l2 : ss.length = ls.length) (h1 : ∀ u (h : u < rs.length), SqT K H rs[u] ((ls.getD u []).map V.int)) (h2 : ∀ u (h : u < ss.length), SqT K H ss[u] ((ls.getD u []).map V.int)) (q : Q (.bl false) H) : rNeD K (.ref a) (.ref b) H Q := by
  refine ⟨_, _, .lst (SqL.of ha) (dpAll_sq rs ls lr h1), .lst (SqL.of hb) (dpAll_sq ss ls l2 h2), shaped_ltd _, shaped_ltd _, ?_⟩
  rw [eqv_ltd]
  exact q
/-- the places of the members of order 0 -/
def zpl (n : Nat) (j : Nat) : List Int := ((List.range j).filter fun k => co ((mkn n (toR n) (toR n).length).getD k []) 1 == 0).map fun k : Nat => (k : Int)
theorem zpl_succ (n j : Nat) : zpl n (j + 1) = zpl n j ++ (if co ((mkn n (toR n) (toR n).length).getD j []) 1 = 0 then [(j : Int)] else []) := by
  unfold zpl
  rw [List.range_succ, List.filter_append, List.map_append]
  congr 1
  by_cases h : co ((mkn n (toR n) (toR n).length).getD j []) 1 = 0
  · rw [if_pos h, List.filter_cons_of_pos (by rw [h]; rfl), List.filter_nil]
    rfl
  · rw [if_neg h, List.filter_cons_of_neg (by simpa using h), List.filter_nil]
    rfl
theorem zpl_len (n j : Nat) : (zpl n j).length ≤ j := by
  unfold zpl
  rw [List.length_map]
  have := List.length_filter_le (fun k => co ((mkn n (toR n) (toR n).length).getD k []) 1 == 0) (List.range j)
  rw [List.length_range] at this
  exact this
theorem zpl5 : zpl 5 19 = [6, 16] := congrArg (List.map fun k : Nat => (k : Int)) m5
theorem zpl6 : zpl 6 20 = [1, 8, 15] := congrArg (List.map fun k : Nat => (k : Int)) m6
theorem mk2 {n k : Nat} (hk : k ≤ (toR n).length) : (mkn n (toR n) (toR n).length).getD k [] = [co ((mkn n (toR n) (toR n).length).getD k []) 0, co ((mkn n (toR n) (toR n).length).getD k []) 1] := by
  have hmk := mkn_len (n := n) (rows := toR n) (toR n).length (Nat.le_refl _)
  have h2 : ((mkn n (toR n) (toR n).length).getD k []).length = 2 := by
    rw [List.getD_eq_getElem?_getD, List.getElem?_eq_getElem (by omega)]
    exact hmk.2 _ (List.getElem_mem _)
  generalize (mkn n (toR n) (toR n).length).getD k [] = r at h2
  match r, h2 with
  | [u, v], _ => rfl
section
variable {P : Program} {w : World} {K : PySem.W.Frag} {mg : Str → Option Value} {base : Heap}
theorem ok_law (T : Facts K mg) (SP : PySem.SupX.SupP P "/claim/cut.py") : FnOk P w K mg base CX0 11 T.f_law T.fd_law ["_law_script"] (spLaw K) := by
  have G_law_dice : FnOk P w K mg base CX0 1 T.f_law_dice T.fd_law_dice ["_law_script", "_law_spot"] (spDice K) := ok_law_dice T
  have G_law_right := ok_law_right (P := P) (w := w) (base := base) T SP
  have G_told_rows := ok_told_rows (P := P) (w := w) (base := base) T
  have G_law_told_row_list := ok_law_told_row_list (P := P) (w := w) (base := base) T
  have G_member_marks := ok_member_marks (P := P) (w := w) (base := base) T
  have G_law_marks_of := ok_law_marks_of (P := P) (w := w) (base := base) T
  have G_told_at := ok_told_at (P := P) (w := w) (base := base) T SP
  have G_Form_init := ok_Form_init (P := P) (w := w) (base := base) T
  have G_Form_entries := ok_Form_entries (P := P) (w := w) (base := base) T
  have G_Form_is_zero := ok_Form_is_zero (P := P) (w := w) (base := base) T
  refine T.F_law.ok sc_law (fun vs H Q E h => ?_) (fun cdv A outer s H vs Q E hr h => ?_)
  · obtain ⟨a, ns, rfl, _⟩ := h
    rfl
  · obtain ⟨a, ns, rfl, hS, hlen, q⟩ := h
    refine ⟨_, (PSs.nox (pss_cons (ps_for PassesOwn.never (by rfl) (pi_range1 (by rfl) T.z_range (pa_cons (pe_callB (call_max2 (by rfl)) (by rfl) T.z_max (by decide +kernel) (pa_cons pe_int (pa_cons (pe_callB (call_min2 (by rfl)) (by rfl) T.z_min (by decide +kernel) (pa_cons pe_int (pa_cons (pe_callB call_len_seq (by rfl) T.z_len (by decide +kernel) (pa_cons (pv 0) pa_nil)) pa_nil))) pa_nil))) pa_nil)) (pg_name (i := 1) sc_law.nd rfl (.inl rfl))
      (pss_cons (ps_set (i := 2) sc_law.nd rfl (.inl rfl) (pe_call G_law_dice (hr.mono (by decide)) (by rfl) T.g_law_dice T.F_law_dice.kp T.b_law_dice .nil pass0 (pa_cons (pv 0) (pa_cons (pv 1) pa_nil))))
      (pss_one (ps_if (pw_or (pt_not (pt_val (pe_call G_law_right hr (by rfl) T.g_law_right T.F_law_right.kp T.b_law_right .nil pass0 (pa_cons (pv 2) (pa_cons pe_int pa_nil))))) (pw_or1 (pt_not (pt_val (pe_call G_law_right hr (by rfl) T.g_law_right T.F_law_right.kp T.b_law_right .nil pass0 (pa_cons (pv 2) (pa_cons pe_int pa_nil))))))).pt
        (pss_one (ps_ret pe_bl))
        pss_nil))))
    (pss_cons (ps_for PassesOwn.never (by rfl) (pi_tup (pe_tup (pa_cons pe_int (pa_cons pe_int pa_nil)))) (pg_name (i := 3) sc_law.nd rfl (.inl rfl))
      (pss_one (ps_if (pw_or (pt_cmpR (op_neD (hu64 hr)) (pe_callTy call_list_of (by rfl) T.z_list (by decide +kernel) (pa_cons (pe_call G_told_rows (hr.mono (by decide)) (by rfl) T.g_told_rows T.F_told_rows.kp T.b_told_rows .nil pass0 (pa_cons (pv 3) pa_nil)) pa_nil)) (pe_call G_law_told_row_list (hr.mono (by decide)) (by rfl) T.g_law_told_row_list T.F_law_told_row_list.kp T.b_law_told_row_list .nil pass0 (pa_cons (pv 3) pa_nil)) (nomark _)) (pw_or1 (pt_cmpR (op_neD (hu64 hr)) (pe_callTy call_list_of (by rfl) T.z_list (by decide +kernel) (pa_cons (pe_call G_member_marks (hr.mono (by decide)) (by rfl) T.g_member_marks T.F_member_marks.kp T.b_member_marks .nil pass0 (pa_cons (pv 3) pa_nil)) pa_nil)) (pe_call G_law_marks_of (hr.mono (by decide)) (by rfl) T.g_law_marks_of T.F_law_marks_of.kp T.b_law_marks_of .nil pass0 (pa_cons (pv 3) pa_nil)) (nomark _)))).pt
        (pss_one (ps_ret pe_bl))
        pss_nil)))
    (pss_cons (ps_set (i := 4) sc_law.nd rfl (.inl rfl) (pe_tup (pa_cons (pe_lc (own := [("_law_at", 5), ("_law_mark", 6)]) (g := (gTup K 2 (gCons (gName 5) (gCons (gName 6) gNil)))) (by rfl) sc_law.nd (pi_enumT (by rfl) T.z_enumerate (pa_cons (pe_call G_member_marks (hr.mono (by decide)) (by rfl) T.g_member_marks T.F_member_marks.kp T.b_member_marks .nil pass0 (pa_cons pe_int pa_nil)) pa_nil)) (blkOk_by (N := N_law) (sc := defScope s_law) (by decide +kernel)) (fun _ _ _ _ _ => (pg_tup (by rfl) (pgs_cons (pg_name (i := 5) sc_law.nd rfl (.inl rfl)) (pgs_cons (pg_name (i := 6) sc_law.nd rfl (.inl rfl)) pgs_nil)))) (fun _ _ _ _ _ => (pts_one (pt_cmpR op_eq (pe_ix (ix_tup : IxR _ (rIxT K)) (pv 6) pe_int (fun _ _ => rfl)) pe_int (nomark _)))) (fun _ _ _ _ _ => (pv 5))) (pa_cons (pe_lc (own := [("_law_at", 5), ("_law_mark", 6)]) (g := (gTup K 2 (gCons (gName 5) (gCons (gName 6) gNil)))) (by rfl) sc_law.nd (pi_enumT (by rfl) T.z_enumerate (pa_cons (pe_call G_member_marks (hr.mono (by decide)) (by rfl) T.g_member_marks T.F_member_marks.kp T.b_member_marks .nil pass0 (pa_cons pe_int pa_nil)) pa_nil)) (blkOk_by (N := N_law) (sc := defScope s_law) (by decide +kernel)) (fun _ _ _ _ _ => (pg_tup (by rfl) (pgs_cons (pg_name (i := 5) sc_law.nd rfl (.inl rfl)) (pgs_cons (pg_name (i := 6) sc_law.nd rfl (.inl rfl)) pgs_nil)))) (fun _ _ _ _ _ => (pts_one (pt_cmpR op_eq (pe_ix (ix_tup : IxR _ (rIxT K)) (pv 6) pe_int (fun _ _ => rfl)) pe_int (nomark _)))) (fun _ _ _ _ _ => (pv 5))) pa_nil))))
    (pss_cons (ps_if (pt_cmpR (op_neD (hu64 hr)) (pv 4) (pe_tup (pa_cons (pe_lst (pa_cons pe_int (pa_cons pe_int pa_nil))) (pa_cons (pe_lst (pa_cons pe_int (pa_cons pe_int (pa_cons pe_int pa_nil)))) pa_nil))) (nomark _))
      (pss_one (ps_ret pe_bl))
      pss_nil)
    (pss_cons (ps_set (i := 7) sc_law.nd rfl (.inl rfl) (pe_call G_told_at (hr.mono (by decide)) (by rfl) T.g_told_at T.F_told_at.kp T.b_told_at .nil pass0 (pa_cons (pe_make T.mk_Form G_Form_init (hr.mono (by decide)) (by rfl) T.g_Form T.b_Form_init .nil pass0 (pa_cons (pe_tup (pa_cons pe_int (pa_cons pe_int (pa_cons pe_int (pa_cons pe_int (pa_cons pe_int (pa_cons pe_int pa_nil))))))) pa_nil)) pa_nil)))
    (pss_cons (ps_set (i := 8) sc_law.nd rfl (.inl rfl) (pe_call G_told_at (hr.mono (by decide)) (by rfl) T.g_told_at T.F_told_at.kp T.b_told_at .nil pass0 (pa_cons (pe_make T.mk_Form G_Form_init (hr.mono (by decide)) (by rfl) T.g_Form T.b_Form_init .nil pass0 (pa_cons (pe_tup (pa_cons pe_int (pa_cons pe_int (pa_cons pe_int (pa_cons pe_int (pa_cons pe_int (pa_cons (pe_un un_neg pe_int) (pa_cons pe_int pa_nil)))))))) pa_nil)) pa_nil)))
    (pss_one (ps_ret (pe_cmpR (op_eqD (hu64 hr)) (pe_lst (pa_cons (pe_prp (pe_ix ix_tup (pv 7) pe_int (fun _ _ => rfl)) T.oc_Form T.pr_Form_entries G_Form_entries T.b_Form_entries (hr.mono (by decide))) (pa_cons (pe_prp (pe_ix ix_tup (pv 7) pe_int (fun _ _ => rfl)) T.oc_Form T.pr_Form_entries G_Form_entries T.b_Form_entries (hr.mono (by decide))) (pa_cons (pe_prp (pe_ix ix_tup (pv 8) pe_int (fun _ _ => rfl)) T.oc_Form T.pr_Form_entries G_Form_entries T.b_Form_entries (hr.mono (by decide))) (pa_cons (pe_prp (pe_ix ix_tup (pv 8) pe_int (fun _ _ => rfl)) T.oc_Form T.pr_Form_is_zero G_Form_is_zero T.b_Form_is_zero (hr.mono (by decide))) pa_nil))))) (pe_lst (pa_cons (pe_tup (pa_cons pe_int (pa_cons pe_int (pa_cons pe_int pa_nil)))) (pa_cons (pe_tup (pa_cons (pe_un un_neg pe_int) pa_nil)) (pa_cons (pe_tup (pa_cons pe_int pa_nil)) (pa_cons pe_bl pa_nil))))) (nomark _))))))))))), ?_⟩
    refine ⟨.ref a, rfl, a, _, rfl, .inl hS, 2, _, rfl, 1, _, rfl, _, rfl, ?_⟩
    rw [List.length_map]
    obtain ⟨n, hn, hn0⟩ : ∃ n : Int, (if (if ((ns.length : Nat) : Int) < 2 then ((ns.length : Nat) : Int) else 2) > 1 then (if ((ns.length : Nat) : Int) < 2 then ((ns.length : Nat) : Int) else 2) else 1) = n ∧ 0 ≤ n ∧ n ≤ 4 := ⟨_, rfl, by split <;> split <;> omega, by split <;> split <;> omega⟩
    rw [hn]
    refine ⟨by omega, by omega, for_range (n := n.toNat) (fun i σ H' => ∃ y1 y2, σ = [some (.ref a), y1, y2, none, none, none, none, none, none] ∧ SqL K H' a (ns.map V.int)) ⟨none, none, rfl, hS⟩ (fun i σ H1 hi hP => ?_) (fun σ H1 hP => ?_)⟩
    · obtain ⟨y1, y2, rfl, h1⟩ := hP
      refine ⟨.ref a, rfl, _, rfl, a, ns, i, ?_, h1, fun d x y z nd => ?_⟩
      · show [V.ref a, V.int (0 + (i : Int))] ++ [] = _
        rw [Int.zero_add]
        rfl
      have d1 : Dc (upd H1 d (dice x y z)) d := ⟨x, y, z, upd_same⟩
      exact ⟨_, rfl, d, 5, rfl, d1, .inl rfl, fun H2 s2 d2 => ⟨true, rfl, iteF ⟨_, rfl, d, 6, rfl, d2, .inr rfl, fun H3 s3 d3 => ⟨true, rfl, iteF ⟨_, _, rfl, script_Sx (s2.trans s3) nd h1⟩⟩⟩⟩⟩
    obtain ⟨y1, y2, rfl, h1⟩ := hP
    have z2 : 2 ≤ sizeLine := by decide
    have z3 : 3 ≤ sizeLine := by decide
    refine ⟨z2, fun p2 m2 => gen_upd H1 p2 (tp [5, 6]) m2 fun H2 s2 k2 => ⟨p2, rfl, ⟨_, SqT.of k2⟩, for_tup (xs := [V.int 5, V.int 6]) (fun j σ H' => ∃ y3, σ = [some (.ref a), y1, y2, y3, none, none, none, none, none] ∧ Same H2 H') ⟨none, rfl, Same.rf _⟩ (fun j σ H' _ hP => ?_) (fun j v σ H3 hx hP => ?_) (fun σ H3 hP => ?_)⟩⟩
    · obtain ⟨y3, _, sH⟩ := hP
      exact SqT.of (sH _ _ k2)
    · obtain ⟨y3, rfl, sH⟩ := hP
      obtain ⟨m, rfl, hm⟩ : ∃ m : Nat, v = .int m ∧ (m = 5 ∨ m = 6) := by
        have := List.mem_of_getElem? hx
        simp only [List.mem_cons, List.not_mem_nil, or_false] at this
        rcases this with e | e
        · exact ⟨5, e, .inl rfl⟩
        · exact ⟨6, e, .inr rfl⟩
      have C := toR_chk hm
      have lmk := (mkn_len (n := m) (rows := toR m) (toR m).length (Nat.le_refl _)).1
      refine ⟨_, rfl, m, rfl, hm, fun b rk => ?_⟩
      obtain ⟨rs, lr, hb, hrow⟩ := rk
      refine ⟨b, _, rfl, .inr (hb _), fun L4 m4 => gen_upd H3 L4 (.lst (rs.map V.ref)) m4 fun H4 s4 k4 => ⟨_, rfl, m, rfl, hm, fun D5 ss H5 s5 k5 h5 => ?_⟩⟩
      refine ne_ltd (ls := (toR m).map RTr.row) (s5 _ _ k4) k5 lr (by rw [List.length_map]; exact h5.1) (fun u hu => ?_) (fun u hu => ?_) ⟨false, rfl, iteF ?_⟩
      · have hu2 : u < ((toR m).map RTr.row).length := by omega
        refine hrow u hu _ ?_ H5
        rw [List.getD_eq_getElem?_getD, List.getElem?_eq_getElem hu2]
        rfl
      · have hu2 : u < (toR m).length := by rw [← h5.1]; exact hu
        have := h5.2 u hu _ (List.getElem?_eq_getElem hu2)
        rw [List.getD_eq_getElem?_getD, List.getElem?_map, List.getElem?_eq_getElem hu2]
        exact SqT.of this
      refine ⟨_, rfl, m, rfl, hm, fun p6 H6 ps s6 k6 f6 => ⟨p6, _, rfl, .inr (SqT.of k6), fun L7 m7 => gen_upd H6 L7 (.lst (ps.map V.ref)) m7 fun H7 s7 k7 => ⟨_, rfl, m, rfl, hm, fun D8 H8 qs s8 k8 f8 => ?_⟩⟩⟩
      have f6 := (f6.same s7).same s8
      refine ne_ltd (ls := mkn m (toR m) (toR m).length) (s8 _ _ k7) k8 f6.1 f8.1 (fun u hu => SqT.of (f6.2 u hu)) (fun u hu => SqT.of (f8.2 u hu)) ⟨false, rfl, iteF ?_⟩
      exact ⟨_, rfl, sH.trans (s4.trans (s5.trans (s6.trans (s7.trans s8))))⟩
    obtain ⟨y3, rfl, sH⟩ := hP
    clear k2
    have pick : ∀ {m : Nat} (hm : m = 5 ∨ m = 6) {H : Hp} {p : Addr} {ps : List Addr}, H p = some (.tup (ps.map V.ref)) → Fs H ps (mkn m (toR m) (toR m).length) → ps.length = (toR m).length + 1 := fun {m} hm {H p ps} _ f => by
      rw [f.1, (mkn_len (n := m) (rows := toR m) (toR m).length (Nat.le_refl _)).1]
    refine ⟨5, rfl, .inl rfl, fun p4 H4 ps s4 k4 f4 => ?_⟩
    have lp4 := pick (.inl rfl) k4 f4
    refine ⟨p4, _, rfl, SqT.of k4, fun D5 hD5 => lc_enumT (xs := ps.map V.ref) (fun j H' => Same H4 H' ∧ H' D5 = some (.lst ((zpl 5 j).map V.int))) ⟨same_upd0 hD5, by rw [upd_same]; rfl⟩ (fun j H' _ hP => SqT.of (hP.1 _ _ k4)) (fun j x B H' hx hP hB => ?_) (fun H5 hP => ?_)⟩
    · obtain ⟨sK, hL⟩ := hP
      obtain ⟨hj, hx⟩ := List.getElem?_eq_some_iff.mp hx
      rw [List.length_map] at hj
      rw [List.getElem_map] at hx
      subst hx
      refine gen_upd H' B _ hB fun H6 s6 f6 => ⟨B, _, rfl, SqT.of f6, rfl, _, _, rfl, _, _, rfl, rfl, rfl, ?_⟩
      have hrow := (sK.trans s6) _ _ (f4.2 j hj)
      rw [mk2 (show j ≤ (toR 5).length by omega)] at hrow
      have hl20 : (toR 5).length ≤ 20 := by decide
      refine ⟨_, rfl, ps[j], _, 1, _, rfl, rfl, SqT.of hrow, atI_nat (j := 1) rfl, rfl, _, rfl, ?_⟩
      have zs := zpl_succ 5 j
      have zl := zpl_len 5 j
      have hL6 := s6 _ _ hL
      by_cases c : co ((mkn 5 (toR 5) (toR 5).length).getD j []) 1 = 0
      · rw [decide_eq_true (show V.int (co ((mkn 5 (toR 5) (toR 5).length).getD j []) 1) = V.int 0 by rw [c])]
        rw [if_pos c] at zs
        refine iteT ⟨_, rfl, _, hL6, ?_, fun b o e => ?_, ?_⟩
        · rw [List.length_map]
          exact small1000 (by omega)
        · rw [upd_ne (ne_of_none e hD5)]
          exact s6 _ _ (sK _ _ e)
        · rw [upd_same, zs, List.map_append]
          rfl
      · rw [decide_eq_false (fun z => c (V.int.inj z))]
        rw [if_neg c, List.append_nil] at zs
        exact iteF ⟨sK.trans s6, by rw [zs]; exact hL6⟩
    obtain ⟨sD5, hD5⟩ := hP
    rw [List.length_map, lp4] at hD5
    rw [show (toR 5).length + 1 = 19 from rfl, zpl5] at hD5
    refine ⟨6, rfl, .inr rfl, fun p7 H7 qs s7 k7 f7 => ?_⟩
    have lp7 := pick (.inr rfl) k7 f7
    refine ⟨p7, _, rfl, SqT.of k7, fun D8 hD8 => lc_enumT (xs := qs.map V.ref) (fun j H' => Same H7 H' ∧ H' D8 = some (.lst ((zpl 6 j).map V.int))) ⟨same_upd0 hD8, by rw [upd_same]; rfl⟩ (fun j H' _ hP => SqT.of (hP.1 _ _ k7)) (fun j x B H' hx hP hB => ?_) (fun H8 hP => ?_)⟩
    · obtain ⟨sK, hL⟩ := hP
      obtain ⟨hj, hx⟩ := List.getElem?_eq_some_iff.mp hx
      rw [List.length_map] at hj
      rw [List.getElem_map] at hx
      subst hx
      refine gen_upd H' B _ hB fun H6 s6 f6 => ⟨B, _, rfl, SqT.of f6, rfl, _, _, rfl, _, _, rfl, rfl, rfl, ?_⟩
      have hrow := (sK.trans s6) _ _ (f7.2 j hj)
      rw [mk2 (show j ≤ (toR 6).length by omega)] at hrow
      have hl20 : (toR 6).length ≤ 20 := by decide
      refine ⟨_, rfl, qs[j], _, 1, _, rfl, rfl, SqT.of hrow, atI_nat (j := 1) rfl, rfl, _, rfl, ?_⟩
      have zs := zpl_succ 6 j
      have zl := zpl_len 6 j
      have hL6 := s6 _ _ hL
      by_cases c : co ((mkn 6 (toR 6) (toR 6).length).getD j []) 1 = 0
      · rw [decide_eq_true (show V.int (co ((mkn 6 (toR 6) (toR 6).length).getD j []) 1) = V.int 0 by rw [c])]
        rw [if_pos c] at zs
        refine iteT ⟨_, rfl, _, hL6, ?_, fun b o e => ?_, ?_⟩
        · rw [List.length_map]
          exact small1000 (by omega)
        · rw [upd_ne (ne_of_none e hD8)]
          exact s6 _ _ (sK _ _ e)
        · rw [upd_same, zs, List.map_append]
          rfl
      · rw [decide_eq_false (fun z => c (V.int.inj z))]
        rw [if_neg c, List.append_nil] at zs
        exact iteF ⟨sK.trans s6, by rw [zs]; exact hL6⟩
    obtain ⟨sD8, hD8⟩ := hP
    rw [List.length_map, lp7] at hD8
    rw [show (toR 6).length + 1 = 20 from rfl, zpl6] at hD8
    have k5 := (s7.trans sD8) _ _ hD5
    clear pick f4 f7 k4 k7
    refine ⟨z2, fun p9 m9 => gen_upd H8 p9 (.tup [.ref D5, .ref D8]) m9 fun H9 s9 k9 => ?_⟩
    have z1 : 1 ≤ sizeLine := by decide
    have z4 : 4 ≤ sizeLine := by decide
    refine ⟨_, rfl, z2, fun L1 n1 => gen_upd H9 L1 (.lst ([6, 16].map V.int)) n1 fun H10 s10 k10 => ⟨z3, fun L2 n2 => gen_upd H10 L2 (.lst ([1, 8, 15].map V.int)) n2 fun H11 s11 k11 => ⟨z2, fun p12 n12 => gen_upd H11 p12 (.tup [.ref L1, .ref L2]) n12 fun H12 s12 k12 => ?_⟩⟩⟩
    have v9 := s10.trans (s11.trans s12)
    refine ⟨.tuple [.list ([6, 16].map PyData.int), .list ([1, 8, 15].map PyData.int)], .tuple [.list ([6, 16].map PyData.int), .list ([1, 8, 15].map PyData.int)], .tup (SqT.of (v9 _ _ k9)) (.cons (.lst (SqL.of ((s9.trans v9) _ _ k5)) (dpAll_ints _)) (.cons (.lst (SqL.of ((s9.trans v9) _ _ hD8)) (dpAll_ints _)) .nil)), .tup (SqT.of k12) (.cons (.lst (SqL.of ((s11.trans s12) _ _ k10)) (dpAll_ints _)) (.cons (.lst (SqL.of (s12 _ _ k11)) (dpAll_ints _)) .nil)), by decide +kernel, by decide +kernel, ?_⟩
    rw [SeqAt.eqv_refl _ (by decide +kernel)]
    refine ⟨false, rfl, iteF ?_⟩
    clear k5 hD5 hD8 k9 k10 k11 k12 s9 s10 s11 s12 v9
    have bA : Bd [1, 0, 0, 0, 1, 0] 5 (2 ^ 20) := ⟨rfl, by decide +kernel⟩
    have bB : Bd [0, 1, 0, 0, 0, -1, 0] 6 (2 ^ 20) := ⟨rfl, by decide +kernel⟩
    have b20 : (2 : Nat) ^ 20 < 10 ^ 60 := by decide
    refine ⟨by show 6 ≤ sizeLine; decide, fun p13 n13 => gen_upd H12 p13 (tp [1, 0, 0, 0, 1, 0]) n13 fun H13 s13 k13 => fun x dx x1 x2 x3 => mkB x1 x2 x3 k13 bA (by decide) b20 fun H14 s14 f14 => ⟨x, _, 5, 20, rfl, f14, bA, Nat.le_refl _, .inl rfl, fun p15 H15 gs s15 hp15 hg15 hf15 => ?_⟩⟩
    refine ⟨_, rfl, by show 7 ≤ sizeLine; decide, fun p16 n16 => gen_upd H15 p16 (tp [0, 1, 0, 0, 0, -1, 0]) n16 fun H16 s16 k16 => fun y dy x1 x2 x3 => mkB x1 x2 x3 k16 bB (by decide) b20 fun H17 s17 f17 => ⟨y, _, 6, 20, rfl, f17, bB, Nat.le_refl _, .inr rfl, fun p18 H18 us s18 hp18 hu18 hf18 => ?_⟩⟩
    have v18 := s16.trans (s17.trans s18)
    have hp15 := v18 _ _ hp15
    have g18 : gs.length = 18 := hg15
    have u19 : us.length = 19 := hu18
    have fa := (hf15 0 (by omega)).same v18
    have fb := (hf15 15 (by omega)).same v18
    have fc := hf18 0 (by omega)
    have fd := hf18 1 (by omega)
    rw [show (fsn [1, 0, 0, 0, 1, 0] (toR 5) (toR 5).length).getD (0 + 1) [] = [5760, 0, 0] from f5a] at fa
    rw [show (fsn [1, 0, 0, 0, 1, 0] (toR 5) (toR 5).length).getD (15 + 1) [] = [-26418075402240000] from f5b] at fb
    rw [show (fsn [0, 1, 0, 0, 0, -1, 0] (toR 6) (toR 6).length).getD (0 + 1) [] = [172800] from f6a] at fc
    have gx : ∀ {z : Addr} {l : List Addr} {k : Nat} (h : k < l.length), ((z :: l).map V.ref)[k + 1]? = some (.ref l[k]) := fun {z l k} h => by
      rw [List.getElem?_map, List.getElem?_cons_succ, List.getElem?_eq_getElem h]
      rfl
    refine ⟨_, rfl, p15, _, 1, _, rfl, rfl, SqT.of hp15, atI_nat (j := 1) (gx (by omega)), prop_ent fa fun t1 kt1 => ⟨_, rfl, p15, _, 16, _, rfl, rfl, SqT.of hp15, atI_nat (j := 16) (gx (by omega)), prop_ent fb fun t2 kt2 => ⟨_, rfl, p18, _, 1, _, rfl, rfl, SqT.of hp18, atI_nat (j := 1) (gx (by omega)), prop_ent fc fun t3 kt3 => ⟨_, rfl, p18, _, 2, _, rfl, rfl, SqT.of hp18, atI_nat (j := 2) (gx (by omega)), prop_zero fd ?_⟩⟩⟩⟩
    rw [show ((fsn [0, 1, 0, 0, 0, -1, 0] (toR 6) (toR 6).length).getD (1 + 1) []).any (· != 0) = false from f6b]
    refine ⟨z4, fun L20 n20 => gen_upd H18 L20 (.lst [.ref t1, .ref t2, .ref t3, .bl true]) n20 fun H20 s20 k20 => ?_⟩
    refine ⟨z3, fun q1 m1 => gen_upd H20 q1 (tp [5760, 0, 0]) m1 fun H21 s21 k21 => ⟨_, rfl, z1, fun q2 m2 => gen_upd H21 q2 (tp [-26418075402240000]) m2 fun H22 s22 k22 => ⟨z1, fun q3 m3 => gen_upd H22 q3 (tp [172800]) m3 fun H23 s23 k23 => ⟨z4, fun L24 n24 => gen_upd H23 L24 (.lst [.ref q1, .ref q2, .ref q3, .bl true]) n24 fun H24 s24 k24 => ?_⟩⟩⟩⟩
    have w20 := s21.trans (s22.trans (s23.trans s24))
    have w18 := s20.trans w20
    refine ⟨.list [.tuple ([5760, 0, 0].map PyData.int), .tuple ([-26418075402240000].map PyData.int), .tuple ([172800].map PyData.int), .bool true], .list [.tuple ([5760, 0, 0].map PyData.int), .tuple ([-26418075402240000].map PyData.int), .tuple ([172800].map PyData.int), .bool true], .lst (SqL.of (w20 _ _ k20)) (.cons (.tup (SqT.of (w18 _ _ kt1)) (dpAll_ints _)) (.cons (.tup (SqT.of (w18 _ _ kt2)) (dpAll_ints _)) (.cons (.tup (SqT.of (w18 _ _ kt3)) (dpAll_ints _)) (.cons (.bl true) .nil)))), .lst (SqL.of k24) (.cons (.tup (SqT.of ((s22.trans (s23.trans s24)) _ _ k21)) (dpAll_ints _)) (.cons (.tup (SqT.of ((s23.trans s24) _ _ k22)) (dpAll_ints _)) (.cons (.tup (SqT.of (s24 _ _ k23)) (dpAll_ints _)) (.cons (.bl true) .nil)))), by decide +kernel, by decide +kernel, ?_⟩
    rw [SeqAt.eqv_refl _ (by decide +kernel)]
    exact q _
end
end K40

set_option Elab.async false
set_option linter.all false
set_option maxRecDepth 100000
set_option maxHeartbeats 0
namespace K40
open PySem PySem.Spec PyProof.Rows L2
theorem facts {P : Program} {w : World} {K : PySem.W.Frag} {h : Heap} {mg : Str → Option Value} {f : Addr} (X : K.In h) (G : h.Ns mainGlobals mg) (hfa : mg ("law" : Str) = some (.ref f)) (SP : PySem.SupX.SupP P "/claim/cut.py") (c : HookS.SaysS faL fnL exL sdL K) :
    ∃ fd : FuncData, (∀ (s : Shared) (v : Value), BindsTo s fd ⟨[v], []⟩ [("_law_script", v)]) ∧ ∀ base : Heap, K.In base → base.Ns mainGlobals mg → FnOk P w K mg base CX0 11 f fd ["_law_script"] (spLaw K) := by
  obtain ⟨T⟩ := facts_of X G c
  have e := hfa.symm.trans T.g_law
  cases e
  have b := FunD.bindsA (ps := ["_law_script"]) T.F_law fun _ _ _ _ _ _ us hl => match us, hl with | [_], _ => rfl
  exact ⟨T.fd_law, fun s v => b s [v] rfl, fun base _ _ => ok_law T SP⟩
end K40
open PySem PySem.W PySem.Calls PyProof.Rows
theorem PySem.Challenge.cw_sourceforms_k40_whole_told_members_holds : PySem.Challenge.rw_sourceforms_k40_whole_told_members.Holds := by
  w_on; o_law
  refine HandSHeadRun.head_any (r := OpenLaw.row PySem.Challenge.rw_sourceforms_k40_whole_told_members) (q := view (OpenLaw.row PySem.Challenge.rw_sourceforms_k40_whole_told_members).prog [81]) (H := K40.hk) (ob := K40.ob) (M := 12000) (loose := K40.loose) (d := HandSHeadRun.topDef (OpenLaw.row PySem.Challenge.rw_sourceforms_k40_whole_told_members).prog 81) (kwd := []) K40.ob_eq
    (by kernel_rfl) (fun s => by kernel_rfl) K40.run (by kernel_rfl) (by kernel_rfl) (by kernel_rfl) (by rfl) (by first | assumption | decide +kernel) (by decide +kernel) ⟨rfl, rfl, rfl, rfl, rfl, by decide +kernel⟩ ?hw ?hc
  case hw => w_witness2
  case hc =>
    refine L2.walk_ofE (l := PySem.Challenge.rw_sourceforms_k40_whole_told_members) (n := 63) (k := 11) (x := "_law_script") (CX := L2.CX0) rfl (by decide) (by kernel_rfl) ⟨rfl, by decide, by decide⟩ ?F (fun _ _ _ _ z => z)
    intro w mg fa h Y G hmg0
    obtain ⟨K, KX, c⟩ := Y
    have hmg : mg ("law" : PySem.Str) = some (.ref fa) := by
      have e : (HandSHeadRun.topDef (OpenLaw.row PySem.Challenge.rw_sourceforms_k40_whole_told_members).prog 81).name = ("law" : PySem.Str) := by kernel_rfl
      rw [← e]
      exact hmg0
    obtain ⟨fd, hb, hF⟩ := K40.facts (P := (PySem.Challenge.rw_sourceforms_k40_whole_told_members).prog) (w := w) KX G hmg ⟨by kernel_rfl, by kernel_rfl⟩ c
    exact ⟨K, fd, K40.spLaw K, KX, hb, fun H a ns hl _ hS => ⟨a, ns, rfl, hS, hl, fun _ => rfl⟩, hF⟩
