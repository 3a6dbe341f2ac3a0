import PyProof.Rows.All
import Wide.All
import OpenK.AllK
import Wide.FinOn
import KE.KTupSum
import HandS.ForMost
import HandS.Wide
import HandS.Style
import HandS.Gcd
import KE.KMathG
import Flt.RightSqrt
import HandS.SlotsOwn
import HandS.IsInst
import KE.KOpsOwn
import KE.KCallOwn
import KE.KOwnIter
import OpenK.KMeth
import OpenK.KOps
import PyProof.InstNe
import HandS.OwnIter
import HandS.IterNext
import HandS.Defaults
import HandS.HeadHook2
import HandS.HeadNt
import PyProof.EqKinds
import PyProof.EqAt
import HandS.Codes
import HandS.Words
import HandS.Slots
import HandS.ClsMeth
import PyProof.ListIndex
import HandS.Iter
import KE.GoesMore
import HandS.List
import HandS.Conv
import HandS.Star
import HandS.TupAny
import HandS.Zip
import HandS.Evl
import HandS.WordsExc
import HandS.Head0
import HandS.Head1
import HandS.Head2
import HandS.Head3
import HandS.HeadEnd
import HandS.HeadHook1
import HandS.HeadHook3
import HandS.HeadHook4
import HandS.FStr
import KE.KEqSeq
import HandS.TupMul
import HandS.TupLe
import PySem.Challenge.RW_sourceforms_k52_whole_layings_over_prime

set_option Elab.async false
set_option linter.all false
set_option maxRecDepth 100000
set_option maxHeartbeats 4000000
/-! rules of mine: a tuple turned round by a slice, the sum of a tuple -/
namespace MyR
open PySem PySem.Spec PyProof.Rows L2 HT
section
variable {prog : Program} {w : World} {A : Around} {E : Value → Shared → Prop} {s : Shared}
end
section
variable {X : Cx}
/-- // by any int other than 0 -/
def CDivZ (_ j : Int) : Prop := j ≠ 0 ∧ j.natAbs.log2 < 9000
theorem op_fdivZ : OpR X (binaryOp .FloorDiv) (rI CDivZ fun i j => .int (i.fdiv j)) := opI fun i j _ _ _ _ _ hc q =>
  floordiv_int hc.1 q (.inl (PyProof.noPylong_of_log2 hc.2))
end
end MyR

set_option Elab.async false
set_option linter.all false
set_option maxRecDepth 100000
set_option maxHeartbeats 2000000
/-! rules for instances with slots: own +, -, *, unary -, ==, !=, len, str -/
namespace OwnR
open PySem PySem.Spec PyProof.Rows L2 SlX
section
variable {X : Cx} {CX : CXT} {C g : Addr} {n : Nat} {sp : Sp} {E : XK}
/-- x op y, both instances of the class at C -/
def rBin (C : Addr) (sp : Sp) (E : XK) : R2 := fun x y H Q => ∃ a dx vs b dy ws, x = .ref a ∧ y = .ref b ∧ Slt H a C dx vs ∧ Slt H b C dy ws ∧ sp [x, y] H Q E
theorem op_bin {op : Operator} (hc : PySem.W.selfFirst X.K C = true) (hs : PySem.W.findIn X.K (.ref C) (PySem.dunder op.info.2) = some (some (.ref g))) (hf : PySem.W.isFn X.K (.ref g) = true) (F : FnR X.prog X.w X.K X.mg X.base CX n g sp)
    (hr : Room n X.A) (hx : Passes CX X E) : OpR X (binaryOp op) (rBin C sp E) := by
  intro pins s σ H x y v u Q I rx ry h
  obtain ⟨a, dx, vs, b, dy, ws, rfl, rfl, ha, hb, q⟩ := h
  cases (show v = Value.ref a from rx)
  cases (show u = Value.ref b from ry)
  obtain ⟨sl, od, _, J, _⟩ := slt_inst I ha
  obtain ⟨sl', od', _, J', _⟩ := slt_inst I hb
  obtain ⟨m, hF⟩ := I.fr
  refine PySem.W.binop_K hF I.ok.mod.kin J J'.type hc hs hf ?_
  refine wpAny_mono (wpAny_call (run_fnR (us := [.ref a, .ref b]) (vs := [.ref a, .ref b]) F hr hx I (.cons rfl (.cons rfl .nil)) q)) (fun w s' z => ?_) fun _ _ x => x
  obtain ⟨z', H', I', rz, qz⟩ := z
  exact cmpback rz ⟨z', H', I', rz, qz⟩
/-- the right operand of a comparison: a value of a plain type, or an instance -/
inductive RT (X : Cx) (H : Hp) : V → Value → Prop where
  | plain {x : V} {T : String} (t : TyB X.K H x T) : RT X H x (.type T)
  | inst {b C' dy : Addr} {ws : List (Option V)} (h : Slt H b C' dy ws) : RT X H (.ref b) (.ref C')
theorem rt_looks {pins : List (Addr × Obj)} {σ : L2.St} {H : Hp} {s : Shared} {y : V} {u tb : Value} (I : Inv X pins σ H s) (ry : RelV y u) (t : RT X H y tb) : PySem.W.Looks (model X.prog X.w) s.heap (typeOf u) tb := by
  cases t with
  | plain t =>
    have e := t.is I ry
    cases u with
    | ref b =>
      obtain ⟨o, h1, h2⟩ := (show ∃ o, s.heap.get? b = some o ∧ o.cls = .type _ from e)
      rw [← h2]
      exact (PySem.W.Looks.ld (part := none) h1).andThen .now
    | _ => exact PySem.W.Looks.of_pure e
  | inst h =>
    cases (show u = Value.ref _ from ry)
    obtain ⟨sl, od, _, J, _⟩ := slt_inst I h
    exact J.type
/-- x == y, x an instance of the class at C with its own __eq__ at g -/
def rEqO (X : Cx) (C : Addr) (sp : Sp) (E : XK) : R2 := fun x y H Q => ∃ a dx vs tb, x = .ref a ∧ Slt H a C dx vs ∧ RT X H y tb ∧ PySem.W.notFirst X.K C tb = true ∧ sp [x, y] H Q E
theorem op_eqO (hs : PySem.W.findIn X.K (.ref C) "__eq__" = some (some (.ref g))) (hf : PySem.W.isFn X.K (.ref g) = true) (F : FnR X.prog X.w X.K X.mg X.base CX n g sp)
    (hr : Room n X.A) (hx : Passes CX X E) : OpR X (compareOp .Eq) (rEqO X C sp E) := by
  intro pins s σ H x y v u Q I rx ry h
  obtain ⟨a, dx, vs, tb, rfl, ha, ht, hn, q⟩ := h
  cases (show v = Value.ref a from rx)
  obtain ⟨sl, od, _, J, _⟩ := slt_inst I ha
  obtain ⟨m, hF⟩ := I.fr
  show wpAny _ _ (richCompare .Eq (.ref a) u) _ _ _
  refine PySem.W.cmp_K (op := .Eq) (tb := tb) hr.units0 hF I.ok.mod.kin J (rt_looks I ry ht) hn hs hf ?_
  refine wpAny_mono (wpAny_call (run_fnR (us := [.ref a, u]) (vs := [.ref a, y]) F hr hx I (.cons rfl (.cons ry .nil)) q)) (fun w s' z => ?_) fun _ _ x => x
  obtain ⟨z', H', I', rz, qz⟩ := z
  exact cmpback rz ⟨z', H', I', rz, qz⟩
theorem objNe_entry {prog : Program} {w : World} {A : Around} {E : Value → Shared → Prop} {s : Shared} {K : PySem.W.Frag} {x C f : Addr} {ox : Obj} {od : Option Obj} {b : Value} (hu : A.units < cLine) (X : K.In s.heap) (I : PySem.W.InstAt s.heap x ox C od)
    (hs : PySem.W.findIn K (.ref C) "__eq__" = some (some (.ref f))) (hf : PySem.W.isFn K (.ref f) = true) {Q : Fin → Shared → Prop}
    (hcall : wpAny (model prog w) A (call (.ref f) [.ref x, b]) (fun v s' => ∃ r, v = .bool r ∧ Q (.done (.ret (.bool (!r)))) s') E s) : wpAny (model prog w) A (Builtin.«object.__ne__» ⟨[.ref x, b], []⟩) Q E s := by
  unfold Builtin.«object.__ne__»
  repeat (first
    | with_reducible refine wpAny_cRoomFor hu ?_
    | (refine wpAny_bind (m := callSpecialIfBound? (.ref x) (Str.ofString "__eq__") [b])
        (PySem.W.ifBound_K X I hs hf (wpAny_mono hcall (fun r s' hr => by
          obtain ⟨b, rfl, hq⟩ := hr
          repeat (first | exact hq | exact wpAny_pure hq | exact wpAny_truthy_bool hq | (refine wpAny_bind (m := truthy (.bool _)) (wpAny_truthy_bool ?_)) | wp_step)) fun _ _ e => e)))
    | wp_step)
theorem ifBound_objNe {M : Model} {A : Around} {E : Value → Shared → Prop} {s : Shared} {K : PySem.W.Frag} {x C : Addr} {ox : Obj} {od : Option Obj} {args : List Value} {Q : Option Value → Shared → Prop} (X : K.In s.heap) (I : PySem.W.InstAt s.heap x ox C od) (hs : PySem.W.findIn K (.ref C) "__ne__" = some (some (.builtin "object.__ne__")))
    (h : wpAny M A (call (.builtin "object.__ne__") (.ref x :: args)) (fun v => Q (some v)) E s) : wpAny M A (callSpecialIfBound? (.ref x) "__ne__" args) Q E s := by
  simp only [callSpecialIfBound?, bindSpecialIfBound?]
  refine wpAny_holding (wpAny_bind (wpAny_bind (wpAny_bind (I.type.here ((PySem.W.looks_findIn X hs).here ?_)))))
  refine wpAny_bind (wpAny_askSetting (wpAny_ite ?_))
  have fin : wpAny M A (call (.builtin "object.__ne__") ([.ref x] ++ args) >>= fun v => pure (some v)) Q E s := wpAny_bind (wpAny_mono h (fun v s' h' => wpAny_pure h') fun _ _ h' => h')
  split
  · exact wpAny_bind (wpAny_of_eq (F.cmp_object.ne.bind _) (wpAny_pure (by exact fin)))
  · exact wpAny_tryCatch (wpAny_bind (wpAny_of_eq (F.cmp_object.ne.bind _) (wpAny_pure (by exact fin))))
theorem rc_ne {prog : Program} {w : World} {A : Around} {E : Value → Shared → Prop} {s : Shared} {K : PySem.W.Frag} {x C f : Addr} {ox : Obj} {od : Option Obj} {b tb : Value} {Q : Value → Shared → Prop} (hu : A.units + 1 < cLine) (X : K.In s.heap) (I : PySem.W.InstAt s.heap x ox C od)
    (hb : PySem.W.Looks (model prog w) s.heap (typeOf b) tb) (hn : PySem.W.notFirst K C tb = true) (hm : PySem.W.mroIn K C (.type "object") = some true) (hne : PySem.W.findIn K (.ref C) "__ne__" = some (some (.builtin "object.__ne__")))
    (hs : PySem.W.findIn K (.ref C) "__eq__" = some (some (.ref f))) (hf : PySem.W.isFn K (.ref f) = true)
    (h : wpAny (model prog w) A.in1 (call (.ref f) [.ref x, b]) (fun v s' => ∃ r, v = .bool r ∧ Q (.bool (!r)) s') E s) : wpAny (model prog w) A (richCompare .NotEq (.ref x) b) Q E s := by
  have one : wpAny (model prog w) A (tryCompare (.ref x) "__ne__" b) (fun r s' => ∃ v, r = some v ∧ Q v s') E s := by
    unfold tryCompare
    refine wpAny_bind (ifBound_objNe X I hne (wpAny_call (codeAny_call_builtin F.cmp_object.ne.plain F.cmpEntry_ne (PySem.W.check_slot F.cmpKind_ne F.cmpSplit_ne (I.type.andThen (PySem.W.looks_mroIn X hm)) (F.cmpArgs_ne _ _) (objNe_entry (A := A.in1) hu X I hs hf (wpAny_mono h (fun v s' hv => ?_) fun _ _ e => e))))))
    obtain ⟨r, rfl, hq⟩ := hv
    exact ⟨r, rfl, wpAny_pure ⟨_, rfl, hq⟩⟩
  unfold richCompare
  simp only [oneThing_ref]
  refine wpAny_holding (wpAny_bind (wpAny_cRoomFor (by omega) ?_))
  refine wpAny_bind (I.type.here (wpAny_bind (hb.here ?_)))
  split
  · rename_i q
    have e : PySem.W.subIn K tb (.ref C) = some false := by
      rcases Bool.or_eq_true_iff.mp hn with e | e
      · rw [beq_iff_eq.mp e] at q; simp at q
      · exact beq_iff_eq.mp e
    refine wpAny_bind ((PySem.W.looks_subIn X e).here ?_)
    simp only [Bool.false_eq_true, if_false]
    refine wpAny_bind (m := tryCompare (.ref x) _ b) (wpAny_mono one (fun r s' z => ?_) fun _ _ e => e)
    obtain ⟨v, rfl, hq⟩ := z
    exact wpAny_pure hq
  · refine wpAny_bind (wpAny_pure ?_)
    simp only [Bool.false_eq_true, if_false]
    refine wpAny_bind (m := tryCompare (.ref x) _ b) (wpAny_mono one (fun r s' z => ?_) fun _ _ e => e)
    obtain ⟨v, rfl, hq⟩ := z
    exact wpAny_pure hq
/-- x != y, x an instance of the class at C with its own __eq__ at g and no __ne__ -/
def rNeO (X : Cx) (C : Addr) (sp : Sp) (E : XK) : R2 := fun x y H Q => ∃ a dx vs tb, x = .ref a ∧ Slt H a C dx vs ∧ RT X H y tb ∧ PySem.W.notFirst X.K C tb = true ∧ sp [x, y] H (fun z H' => ∃ r, z = .bl r ∧ Q (.bl (!r)) H') E
theorem op_neO (hm : PySem.W.mroIn X.K C (.type "object") = some true) (hne : PySem.W.findIn X.K (.ref C) "__ne__" = some (some (.builtin "object.__ne__"))) (hs : PySem.W.findIn X.K (.ref C) "__eq__" = some (some (.ref g))) (hf : PySem.W.isFn X.K (.ref g) = true) (F : FnR X.prog X.w X.K X.mg X.base CX n g sp)
    (hr : Room (n + 1) X.A) (hx : Passes CX X E) : OpR X (compareOp .NotEq) (rNeO X C sp E) := by
  intro pins s σ H x y v u Q I rx ry h
  obtain ⟨a, dx, vs, tb, rfl, ha, ht, hn, q⟩ := h
  cases (show v = Value.ref a from rx)
  obtain ⟨sl, od, _, J, _⟩ := slt_inst I ha
  show wpAny _ _ (richCompare .NotEq (.ref a) u) _ _ _
  refine rc_ne (Nat.lt_of_le_of_lt (Nat.le_refl _) (Room.in1 hr).units0) I.kIn J (rt_looks I ry ht) hn hm hne hs hf ?_
  refine wpAny_mono (wpAny_call (run_at (us := [.ref a, u]) (ws := [.ref a, y]) F (Room.in1 hr) I.env0.in1 hx I (.cons rfl (.cons ry .nil)) q)) (fun w s' z => ?_) fun _ _ x => x
  obtain ⟨z', H', I', rz, r, ez, qz⟩ := z
  subst ez
  cases (show w = Value.bool r from rz)
  exact ⟨r, rfl, .bl (!r), H', I', rfl, qz⟩
end
end OwnR

set_option Elab.async false
set_option linter.all false
set_option maxRecDepth 100000
set_option maxHeartbeats 2000000
/-! list(x) of an instance with own __iter__ (an iterator over a tuple) and own __len__; iter of a tuple -/
namespace OwnR
open PySem PySem.Spec PyProof.Rows L2 SlX
/-- at it an iterator over the tuple at t, the next place is i -/
def ItT (t it : Addr) (i : Nat) : HO := .ext fun h => IsTupIter h it t i
section
variable {X : Cx} {CX : CXT} {pins : List (Addr × Obj)} {σ : L2.St} {H : Hp} {s : Shared} {C g gl t it q : Addr} {n i : Nat} {sp spl : Sp} {E : XK}
/-- what stands while the iterator's items are taken -/
structure Tk (K : PySem.W.Frag) (H0 H : Hp) (t it q : Addr) (ys : List V) (i : Nat) : Prop where
  at_ : H it = some (ItT t it i)
  tu : SqT K H t ys
  li : H q = some (.lst (ys.take i))
  st : ∀ b o, b ≠ it → b ≠ q → H0 b = some o → H b = some o
theorem slt_upd {a dx q : Addr} {vs : List (Option V)} {o : HO} (h : Slt H a C dx vs) (n : H q = none) : Slt (upd H q o) a C dx vs := by
  rcases h with ⟨h1, h2⟩ | ⟨h1, h2⟩
  · exact .inl ⟨by rw [upd_ne (ne_of_none h1 n)]; exact h1, h2⟩
  · exact .inr ⟨by rw [upd_ne (ne_of_none h1 n)]; exact h1, by rw [upd_ne (ne_of_none h2 n)]; exact h2⟩
end
end OwnR

set_option Elab.async false
set_option linter.all false
set_option maxRecDepth 100000
set_option maxHeartbeats 2000000
/-! a Hook that tells of defs found anywhere (a global, a class's method, a property's getter), and of classes with slots -/
namespace HookG
open PySem PySem.Spec PyProof.Rows L2 He
/-- the property f of the class at C -/
def prA (K : PySem.W.Frag) (C : Addr) (f : Str) : Addr := match PySem.W.recIn K (ma K C f) "property" with
  | some (.ref g :: _) => g
  | _ => 0
/-- where a def stands: a global; a method; a property's getter; a classmethod -/
inductive At where
  | glo (x : Str)
  | met (C m : Str)
  | prp (C f : Str)
  | cms (C m : Str)
def At.adr (K : PySem.W.Frag) : At → Addr
  | .glo x => ga K x
  | .met C m => ma K (ga K C) m
  | .prp C f => prA K (ga K C) f
  | .cms C m => He5.wf K (ga K C) "classmethod" m
structure GD where
  at_ : At
  name : Str
  qual : Str
  params : Arguments
  body : List Stmt
  scope : Scope
def fnA (K : PySem.W.Frag) (a : Addr) : FnW := match K.lookup a with
  | some ⟨_, _, .func fd, _⟩ => some (fd.name, fd.qualname, fd.params, fd.body, fd.scope, fd.globals, fd.closure, fd.builtins)
  | _ => none
def GD.val (d : GD) : FnW := some (d.name, d.qual, d.params, .stmts d.body, d.scope, mainGlobals, [], builtinsNs)
def GD.ok (K : PySem.W.Frag) (d : GD) : Bool := PySem.W.keepIn K (.ref (d.at_.adr K)) && (match K.lookup (d.at_.adr K) with
  | some ⟨_, _, .func fd, _⟩ => PySem.W.codeIn K fd.code d.qual && (dflB K fd.defaults [] && kwdB K fd.kwdefaults [])
  | _ => false)
theorem GD.funD {K : PySem.W.Frag} {d : GD} (e : fnA K (d.at_.adr K) = d.val) (c : d.ok K = true) : ∃ fd, FunD K d.name d.qual d.params d.body d.scope [] [] (d.at_.adr K) fd := by
  obtain ⟨kp, c2⟩ := ba c
  unfold fnA at e
  cases q : K.lookup (d.at_.adr K) with
  | none => rw [q] at c2; cases c2
  | some o =>
    obtain ⟨oc, od, dt, osl⟩ := o
    rw [q] at c2 e
    cases dt with
    | func fd =>
      obtain ⟨n1, n2, n3, n4, n5, n6, n7, n8, n9, n10, n11, n12, n13, n14, n15⟩ := fd
      have e2 : (some (n1, n2, n3, n4, n5, n6, n7, n15) : FnW) = some (d.name, d.qual, d.params, .stmts d.body, d.scope, mainGlobals, [], builtinsNs) := e
      simp only [Option.some.injEq, Prod.mk.injEq] at e2
      obtain ⟨h1, h2, h3, h4, h5, h6, h7, h8⟩ := e2
      subst h1 h2 h3 h4 h5 h6 h7 h8
      have c3 : (PySem.W.codeIn K n13 d.qual && (dflB K n8 [] && kwdB K n9 [])) = true := c2
      obtain ⟨k1, k2⟩ := ba c3
      obtain ⟨k3, k4⟩ := ba k2
      exact ⟨_, ⟨oc, od, n8, n9, n10, n11, n12, n13, n14, osl, rfl, q, k1, dflB_ok k3, kwdB_ok k4⟩, kp⟩
    | _ => cases c2
/-! ### facts of classes with slots -/
def dO {α : Type} [DecidableEq α] (a b : Option α) : Bool := decide (a = b)
theorem dO_ok {α : Type} [DecidableEq α] {a b : Option α} (h : dO a b = true) : a = b := of_decide_eq_true h
/-- the class at the module's name x: plain, with slots -/
def sclB (K : PySem.W.Frag) (x : Str) : Bool := PySem.W.plainGet K (ga K x) Str.empty && (PySem.W.isClsIn K (ga K x) && (PySem.W.plainOver K (ga K x) && eqO (PySem.W.findIn K (.ref (ga K x)) "__setattr__") (some (some (.builtin "object.__setattr__")))))
theorem sclB_ok {K : PySem.W.Frag} {x : Str} (h : sclB K x = true) : SlX.SCls K (ga K x) := by
  obtain ⟨c1, c⟩ := ba h
  obtain ⟨c2, c⟩ := ba c
  obtain ⟨c3, c4⟩ := ba c
  exact ⟨c1, c2, c3, eqO_ok c4⟩
def slotB (K : PySem.W.Frag) (x f : Str) (i : Nat) : Bool := eqO (PySem.W.findIn K (.ref (ga K x)) f) (some (some (.ref (ma K (ga K x) f)))) && (eqO (PySem.W.specialIn K (.ref (ma K (ga K x) f)) "__get__") (some (some (.builtin "member_descriptor.__get__"))) && (dO (PySem.W.takesIn K (.ref (ma K (ga K x) f))) (some true) && (dO (PySem.W.typeIn K (.ref (ma K (ga K x) f))) (some (.type "member_descriptor")) && dO (PySem.W.slotIn K (ma K (ga K x) f) (ga K x)) (some i))))
theorem slotB_ok {K : PySem.W.Frag} {x f : Str} {i : Nat} (h : slotB K x f i = true) (hi : i < 1000) : SlX.Slot1 K (ga K x) f (ma K (ga K x) f) i := by
  obtain ⟨c1, c⟩ := ba h
  obtain ⟨c2, c⟩ := ba c
  obtain ⟨c3, c⟩ := ba c
  obtain ⟨c4, c5⟩ := ba c
  exact ⟨eqO_ok c1, eqO_ok c2, dO_ok c3, dO_ok c4, dO_ok c5, hi⟩
def sisB (K : PySem.W.Frag) (x : Str) : Bool := eqO (PySem.W.findIn K (.ref (ga K x)) "__class__") (some (some (.builtin "object.__class__"))) && (eqO (PySem.W.specialIn K (.builtin "object.__class__") "__get__") (some (some (.builtin "getset_descriptor.__get__"))) && (dO (PySem.W.takesIn K (.builtin "object.__class__")) (some true) && dO (PySem.W.mroIn K (ga K x) (.type "object")) (some true)))
theorem sisB_ok {K : PySem.W.Frag} {x : Str} (h : sisB K x = true) : SlX.SIsi K (ga K x) := by
  obtain ⟨c1, c⟩ := ba h
  obtain ⟨c2, c⟩ := ba c
  obtain ⟨c3, c4⟩ := ba c
  exact ⟨eqO_ok c1, eqO_ok c2, dO_ok c3, dO_ok c4⟩
/-- a method: found in the class, a function -/
structure Mt (K : PySem.W.Frag) (C : Addr) (m : Str) (g : Addr) : Prop where
  at_ : PySem.W.findIn K (.ref C) m = some (some (.ref g))
  fn : PySem.W.isFn K (.ref g) = true
def mtB (K : PySem.W.Frag) (x m : Str) : Bool := eqO (PySem.W.findIn K (.ref (ga K x)) m) (some (some (.ref (ma K (ga K x) m)))) && PySem.W.isFn K (.ref (ma K (ga K x) m))
theorem mtB_ok {K : PySem.W.Frag} {x m : Str} (h : mtB K x m = true) : Mt K (ga K x) m (ma K (ga K x) m) := by
  obtain ⟨c1, c2⟩ := ba h
  exact ⟨eqO_ok c1, c2⟩
/-- a property, its getter at g -/
structure Pr (K : PySem.W.Frag) (C : Addr) (f : Str) (p g : Addr) : Prop where
  at_ : PySem.W.findIn K (.ref C) f = some (some (.ref p))
  get : PySem.W.specialIn K (.ref p) "__get__" = some (some (.builtin "property.__get__"))
  tk : PySem.W.takesIn K (.ref p) = some true
  rc : ∃ rest, PySem.W.recIn K p "property" = some (.ref g :: rest)
def recB (K : PySem.W.Frag) (p g : Addr) : Bool := match PySem.W.recIn K p "property" with
  | some (.ref a :: _) => decide (a = g)
  | _ => false
def prB (K : PySem.W.Frag) (x f : Str) : Bool := eqO (PySem.W.findIn K (.ref (ga K x)) f) (some (some (.ref (ma K (ga K x) f)))) && (eqO (PySem.W.specialIn K (.ref (ma K (ga K x) f)) "__get__") (some (some (.builtin "property.__get__"))) && (dO (PySem.W.takesIn K (.ref (ma K (ga K x) f))) (some true) && recB K (ma K (ga K x) f) (prA K (ga K x) f)))
theorem prB_ok {K : PySem.W.Frag} {x f : Str} (h : prB K x f = true) : Pr K (ga K x) f (ma K (ga K x) f) (prA K (ga K x) f) := by
  obtain ⟨c1, c⟩ := ba h
  obtain ⟨c2, c⟩ := ba c
  obtain ⟨c3, c4⟩ := ba c
  refine ⟨eqO_ok c1, eqO_ok c2, dO_ok c3, ?_⟩
  unfold recB at c4
  cases q : PySem.W.recIn K (ma K (ga K x) f) "property" with
  | none => rw [q] at c4; cases c4
  | some l =>
    rw [q] at c4
    cases l with
    | nil => cases c4
    | cons a r =>
      cases a with
      | ref b =>
        have e : b = prA K (ga K x) f := of_decide_eq_true c4
        rw [← e]
        exact ⟨r, rfl⟩
      | _ => cases c4
/-! ### the Hook -/
abbrev AlG : Type := Bool × List FnW
def obsG (fa : List Fa) (fn : List GD) (ex : PySem.W.Frag → Bool) (K : PySem.W.Frag) : AlG := ((fa.all fun f => f.ok K) && ((fn.all fun d => d.ok K) && ex K), fn.map fun d => fnA K (d.at_.adr K))
def valG (fn : List GD) : AlG := (true, fn.map GD.val)
def SaysG (fa : List Fa) (fn : List GD) (ex : PySem.W.Frag → Bool) (K : PySem.W.Frag) : Prop := obsG fa fn ex K = valG fn
section
variable {fa : List Fa} {fn : List GD} {ex : PySem.W.Frag → Bool} {K : PySem.W.Frag}
theorem SaysG.all (c : SaysG fa fn ex K) : ((fa.all fun f => f.ok K) && ((fn.all fun d => d.ok K) && ex K)) = true := congrArg (fun z : AlG => z.1) c
theorem SaysG.fact (c : SaysG fa fn ex K) (i : Nat) {f : Fa} (h : fa[i]? = some f := by rfl) : f.ok K = true := List.all_eq_true.mp (ba c.all).1 f (List.mem_of_getElem? h)
theorem SaysG.more (c : SaysG fa fn ex K) : ex K = true := (ba (ba c.all).2).2
theorem SaysG.def_ (c : SaysG fa fn ex K) (i : Nat) {d : GD} (h : fn[i]? = some d := by rfl) : ∃ fd, FunD K d.name d.qual d.params d.body d.scope [] [] (d.at_.adr K) fd := by
  have c2 := (ba (ba c.all).2).1
  have e : fn.map (fun d => fnA K (d.at_.adr K)) = fn.map GD.val := congrArg (fun z : AlG => z.2) c
  have e2 : (fn.map fun d => fnA K (d.at_.adr K))[i]? = (fn.map GD.val)[i]? := by rw [e]
  rw [List.getElem?_map, List.getElem?_map, h] at e2
  exact GD.funD (Option.some.inj e2) (List.all_eq_true.mp c2 d (List.mem_of_getElem? h))
end
end HookG

set_option Elab.async false
set_option linter.all false
set_option maxRecDepth 100000
set_option maxHeartbeats 2000000
/-! HookG's Hook over a lesser fragment: what the globals name, what is named by that, and so on; a function names its code and its defaults only -/
namespace HookG
open PySem PySem.Spec PyProof.Rows L2 He
def refsW (o : Obj) : List Addr := match o.data with
  | .func fd => refV fd.code ++ refV fd.defaults ++ refV fd.kwdefaults
  | _ => refsD o
def nxtW (g : Addr → Option Obj) (as : List Addr) : List Addr := as.flatMap fun a => match g a with
  | some o => refsW o
  | none => []
def levW (g : Addr → Option Obj) : Nat → List Addr → List Addr
  | 0, as => as
  | n + 1, as => as ++ levW g n (nxtW g as)
def asW (g : Addr → Option Obj) (n : Nat) : List Addr := levW g n [mainGlobals] ++ [cStatics]
def obsGW (n : Nat) (fa : List Fa) (fn : List GD) (ex : PySem.W.Frag → Bool) (g : Addr → Option Obj) : AlG := obsG fa fn ex (frG g (asW g n))
def hookW (n : Nat) (fa : List Fa) (fn : List GD) (ex : PySem.W.Frag → Bool) : PySem.W.Hook where
  α := AlG
  obs := fun s => obsGW n fa fn ex s.heap.get?
  val := fun _ => valG fn
  says := fun _ h => ∃ K : PySem.W.Frag, K.In h ∧ SaysG fa fn ex K
  of := fun _ _ e => ⟨_, frG_in, e⟩
  keeps := fun _ _ _ ⟨K, hK, c⟩ k => ⟨K, PySem.W.Frag.In.keeps hK k, c⟩
theorem obsGW_eq {n : Nat} {fa : List Fa} {fn : List GD} {ex : PySem.W.Frag → Bool} {g : Addr → Option Obj} {s : Shared} (h : ∀ a, g a = s.heap.get? a) : obsGW n fa fn ex g = (hookW n fa fn ex).obs s := by
  have e : g = s.heap.get? := funext h
  rw [e] <;> rfl
end HookG

set_option Elab.async false
set_option linter.all false
set_option maxRecDepth 100000
set_option maxHeartbeats 2000000
/-! a module's constant that is a tuple of ints; `n not in t` for a tuple of ints -/
namespace StatT
open PySem PySem.Spec PyProof.Rows L2 He HookG
def intsB : List Int → List Value → Bool
  | [], [] => true
  | i :: l, .int j _ :: us => decide (i = j) && intsB l us
  | _, _ => false
theorem intsB_ok : ∀ {l : List Int} {us : List Value}, intsB l us = true → Vals (l.map V.int) us
  | [], [], _ => .nil
  | i :: l, .int j t :: us, h => by
    obtain ⟨h1, h2⟩ := ba (show (decide (i = j) && intsB l us) = true from h)
    have e : i = j := of_decide_eq_true h1
    subst e
    exact .cons ⟨t, rfl⟩ (intsB_ok h2)
def tupB (K : PySem.W.Frag) (x : Str) (l : List Int) : Bool := eqO (PySem.W.nsIn K mainGlobals x) (some (some (.ref (ga K x)))) && (match K.lookup (ga K x) with
  | some ⟨.type "tuple", _, .seq its _, _⟩ => intsB l its.toList && decide (its.size ≤ 1000)
  | _ => false)
/-- x is a tuple of these ints -/
structure Tp (K : PySem.W.Frag) (mg : Str → Option Value) (x : Str) (l : List Int) (a : Addr) : Prop where
  g : mg x = some (.ref a)
  sq : ∀ H : Hp, SqT K H a (l.map V.int)
theorem tupB_ok {K : PySem.W.Frag} {h : Heap} {mg : Str → Option Value} {x : Str} {l : List Int} (X : K.In h) (G : h.Ns mainGlobals mg) (c : tupB K x l = true) : Tp K mg x l (ga K x) := by
  obtain ⟨c1, c2⟩ := ba c
  refine ⟨PySem.W.mg_of X G (eqO_ok c1), fun H => ?_⟩
  split at c2
  · rename_i od its n sl ho
    obtain ⟨c3, c4⟩ := ba c2
    have hz : its.size ≤ 1000 := of_decide_eq_true c4
    exact .inr ⟨_, its, n, ho, rfl, rfl, by rw [sizeLine_eq]; omega, intsB_ok c3⟩
  · cases c2
section
variable {X : Cx}
def rNotInTI (K : PySem.W.Frag) : V → V → Hp → VK → Prop := fun x y H Q => ∃ (i : Int) (a : Addr) (ns : List Int), x = .int i ∧ y = .ref a ∧ SqT K H a (ns.map V.int) ∧ Q (.bl (!ns.any (· == i))) H
def isI (i : Int) : Value → Bool
  | .int j _ => j == i
  | _ => false
theorem vals_any (i : Int) : ∀ {ns : List Int} {us : List Value}, Vals (ns.map V.int) us → us.any (isI i) = ns.any (· == i) ∧ ∀ y ∈ us, ∃ j t, y = .int j t
  | [], us, h => by
    cases h
    exact ⟨rfl, fun y hy => (nomatch hy)⟩
  | n :: ns, us, h => by
    cases h with
    | cons h1 h2 =>
      obtain ⟨t, rfl⟩ := h1
      obtain ⟨e, a⟩ := vals_any i h2
      refine ⟨by rw [List.any_cons, List.any_cons, e]; rfl, fun y hy => ?_⟩
      rcases List.mem_cons.mp hy with rfl | hy
      · exact ⟨n, t, rfl⟩
      · exact a y hy
theorem op_notInTI : OpR X (compareOp .NotIn) (rNotInTI X.K) := by
  intro pins s σ H x y v u Q I rx ry h
  obtain ⟨i, a, ns, rfl, rfl, ha, q⟩ := h
  obtain ⟨t, rfl⟩ := rx
  obtain rfl : u = Value.ref a := ry
  obtain ⟨its, r, ht, _⟩ := I.tuple ha
  obtain ⟨e, al⟩ := vals_any i r
  refine SeqAt.notIn_tupleAt (isI i) ht (fun y hy => ?_) ?_
  · obtain ⟨j, tj, rfl⟩ := al y (by simpa using hy)
    exact SeqAt.EqAt.int_int j tj i t
  · rw [show its.toArray.any (isI i) = its.any (isI i) by simp, e]
    exact ⟨.bl _, H, I, rfl, q⟩
end
end StatT

set_option Elab.async false
set_option linter.all false
set_option maxRecDepth 100000
set_option maxHeartbeats 2000000
/-! the rules of OwnR, OwnL, over the facts of HookG -/
namespace OwnF
open PySem PySem.Spec PyProof.Rows L2 He SlX OwnR HookG
/-- what is asked of a class with slots -/
structure OC (K : PySem.W.Frag) (C : Addr) : Prop where
  scl : SCls K C
  sis : SIsi K C
  first : PySem.W.selfFirst K C = true
  ne : PySem.W.findIn K (.ref C) "__ne__" = some (some (.builtin "object.__ne__"))
  ntup : PySem.W.notFirst K C (.type "tuple") = true
  rmul : PySem.W.findIn K (.ref C) "__rmul__" = some none
  imul : PySem.W.findIn K (.type "int") "__mul__" = some (some (.builtin "int.__mul__"))
  irmul : PySem.W.findIn K (.type "int") "__rmul__" = some (some (.builtin "int.__rmul__"))
  isub : PySem.W.subIn K (.type "int") (.ref C) = some false
  kself : PySem.W.kitOne K (.ref C) (.ref C) = some true
  ktup : PySem.W.kitOne K (.type "tuple") (.ref C) = some false
  kint : PySem.W.kitOne K (.type "int") (.ref C) = some false
def ocB (K : PySem.W.Frag) (x : Str) : Bool := sclB K x && (sisB K x && (PySem.W.selfFirst K (ga K x) && (eqO (PySem.W.findIn K (.ref (ga K x)) "__ne__") (some (some (.builtin "object.__ne__"))) && (PySem.W.notFirst K (ga K x) (.type "tuple") && (eqO (PySem.W.findIn K (.ref (ga K x)) "__rmul__") (some none) && (eqO (PySem.W.findIn K (.type "int") "__mul__") (some (some (.builtin "int.__mul__"))) && (eqO (PySem.W.findIn K (.type "int") "__rmul__") (some (some (.builtin "int.__rmul__"))) && (dO (PySem.W.subIn K (.type "int") (.ref (ga K x))) (some false) && (dO (PySem.W.kitOne K (.ref (ga K x)) (.ref (ga K x))) (some true) && (dO (PySem.W.kitOne K (.type "tuple") (.ref (ga K x))) (some false) && dO (PySem.W.kitOne K (.type "int") (.ref (ga K x))) (some false)))))))))))
theorem ocB_ok {K : PySem.W.Frag} {x : Str} (h : ocB K x = true) : OC K (ga K x) := by
  obtain ⟨c1, c⟩ := ba h
  obtain ⟨c2, c⟩ := ba c
  obtain ⟨c3, c⟩ := ba c
  obtain ⟨c4, c⟩ := ba c
  obtain ⟨c5, c⟩ := ba c
  obtain ⟨c6, c⟩ := ba c
  obtain ⟨c7, c⟩ := ba c
  obtain ⟨c8, c⟩ := ba c
  obtain ⟨c9, c⟩ := ba c
  obtain ⟨c10, c⟩ := ba c
  obtain ⟨c11, c12⟩ := ba c
  exact ⟨sclB_ok c1, sisB_ok c2, c3, eqO_ok c4, c5, eqO_ok c6, eqO_ok c7, eqO_ok c8, dO_ok c9, dO_ok c10, dO_ok c11, dO_ok c12⟩
theorem raw0 {P : Program} {w : World} {K : PySem.W.Frag} {mg : Str → Option Value} {base : Heap} {CX : CXT} {k : Nat} {f : Addr} {sp : Sp} {fd : FuncData} {ps : List Str} (F : FnOk P w K mg base CX k f fd ps sp) (hb : Binds K fd ps []) : FnR P w K mg base CX k f sp :=
  (F.raw hb .nil).imp fun vs H Q E h => by rw [List.append_nil]; exact h
section
variable {X : Cx} {C g gl pp : Addr} {n : Nat} {sp spl : Sp} {fd fdl : FuncData} {ps psl : List Str} {f : Str} {e : Expr} {pos : Pos} {ta : TE}
theorem hx0 : ∀ (H : Hp) (s : Shared) (e : Value) (s' : Shared), CX0 X.stack H s E0 e s' → False := fun _ _ _ _ h => h
theorem pe_prp (he : PE X e ta) (c : OC X.K C) (p : Pr X.K C f pp g) (F : FnOk X.prog X.w X.K X.mg X.base CX0 n g fd ps sp) (hb : Binds X.K fd ps []) (hr : Room (n + 1) X.A) (hb2 : attributeBase e f X.env (eval e X.env) = eval e X.env := by rfl) : PE X (.Attribute e f pos) (tPropSl C sp E0 ta) :=
  pe_propSl he c.scl p.at_ p.get p.tk p.rc (raw0 F hb) hr hx0 hb2
theorem op_mulO (c : OC X.K C) (m : Mt X.K C "__mul__" g) (F : FnOk X.prog X.w X.K X.mg X.base CX0 n g fd ps sp) (hb : Binds X.K fd ps []) (hr : Room n X.A) : OpR X (binaryOp .Mult) (rBin C sp E0) :=
  op_bin c.first ((show PySem.dunder (Operator.info .Mult).2 = ("__mul__" : Str) by decide +kernel) ▸ m.at_) m.fn (raw0 F hb) hr pass0
theorem op_eqF (m : Mt X.K C "__eq__" g) (F : FnOk X.prog X.w X.K X.mg X.base CX0 n g fd ps sp) (hb : Binds X.K fd ps []) (hr : Room n X.A) : OpR X (compareOp .Eq) (rEqO X C sp E0) := op_eqO m.at_ m.fn (raw0 F hb) hr pass0
theorem op_neF (c : OC X.K C) (m : Mt X.K C "__eq__" g) (F : FnOk X.prog X.w X.K X.mg X.base CX0 n g fd ps sp) (hb : Binds X.K fd ps []) (hr : Room (n + 1) X.A) : OpR X (compareOp .NotEq) (rNeO X C sp E0) := op_neO c.sis.cm c.ne m.at_ m.fn (raw0 F hb) hr pass0
theorem iter_anyT {prog : Program} {w : World} {A : Around} {E : Value → Shared → Prop} {s : Shared} {l : Addr} {items : Array Value} {Q : Value → Shared → Prop} (hl : s.heap.IsTuple l items)
    (h : ∀ s₂ : Shared, s₂ = { s with heap := s.heap.push { cls := .type "tuple_iterator", data := .fields #[.ref l, .int 0 0] } } →
      (s₂.heap.IsTupleIter s.heap.objs.size l 0 ∧ s₂.heap.IsTuple l items) → l ≠ s.heap.objs.size → Q (.ref s.heap.objs.size) s₂) : wpAny (model prog w) A (pyIter (.ref l)) Q E s := by
  have hlt : l < s.heap.objs.size := by obtain ⟨_, e, _⟩ := hl; exact Heap.lt_size e
  exact wpAny_pyIter_tuple hl (h _ rfl ⟨⟨_, Heap.get?_push_size _ rfl, rfl, rfl⟩, hl.push _⟩ (Nat.ne_of_lt hlt))
theorem truth_ints {prog : Program} {w : World} {A : Around} {ns : List Int} {its : List Value} (r : Vals (ns.map V.int) its) :
    TruthOf prog w A (fun i v => its.toArray[i]? = some v) (fun i => ns.getD i 0 != 0) := fun i v s Q E hv hq => by
  have hv' : its[i]? = some v := by simpa using hv
  have hlen := r.length
  rw [List.length_map] at hlen
  have hlt : i < ns.length := by
    have := (List.getElem?_eq_some_iff.mp hv').1
    omega
  obtain ⟨u, hu, t, ru⟩ := r.get (show (ns.map V.int)[i]? = some (.int ns[i]) by rw [List.getElem?_map, List.getElem?_eq_getElem hlt]; rfl)
  rw [hv'] at hu
  cases hu
  subst ru
  have hg : ns.getD i 0 = ns[i] := by rw [List.getD_eq_getElem?_getD, List.getElem?_eq_getElem hlt] <;> rfl
  have hq' : Q (ns.getD i 0 != 0) s := hq
  rw [hg] at hq'
  exact truthy_int hq'
theorem any_rangeI : ∀ ns : List Int, (List.range ns.length).any (fun i => ns.getD i 0 != 0) = ns.any (· != 0)
  | [] => rfl
  | b :: bs => by
    rw [List.length_cons, List.range_succ_eq_map, List.any_cons, List.any_map, List.any_cons, ← any_rangeI bs]
    all_goals rfl
/-- any of a tuple of ints -/
def rAnyTI (K : PySem.W.Frag) : List V → Hp → VK → Prop := fun vs H Q => ∃ (a : Addr) (ns : List Int), vs = [V.ref a] ∧ SqT K H a (ns.map V.int) ∧ Q (.bl (ns.any (· != 0))) H
theorem cr_anyTI (hc : X.calm = true) : CallR X (.builtin "any") (rAnyTI X.K) := by
  intro pins s σ H vs us Q I r h
  obtain ⟨a, ns, rfl, hs, q⟩ := h
  obtain ⟨its, rv, hl, _⟩ := I.tuple hs
  rw [Vals.ref1 r]
  have hlen := rv.length
  rw [List.length_map] at hlen
  refine call_any_walk (iter_anyT (show s.heap.IsTuple a its.toArray from hl) fun s₂ e2 st hne => ?_)
  subst e2
  refine ⟨_, _, _, _, _, _, _, rfl, Walks.tuple (A := X.A.in1) (I.ok.hd hc) _ a hne its.toArray, st, truth_ints rv, fun h' tk hk => ?_⟩
  refine ⟨.bl _, H, I.kept fun b o eo => hk b o (fun hmem => ?_) (Heap.get?_push_of_some _ eo), ?_, q⟩
  · rcases List.mem_cons.mp hmem with e1 | hmem
    · exact absurd (e1 ▸ Heap.lt_size eo) (Nat.lt_irrefl _)
    · cases hmem
  · show Value.bool _ = Value.bool _
    rw [← any_rangeI, List.size_toArray, ← hlen]
/-- isinstance(x, C): x of a plain type, or an instance -/
theorem call_isiF (C : Addr) : CallR X (.builtin "isinstance") (fun xs H Q => rIsi X.K xs H Q ∨ rIsiSl X.K (.ref C) xs H Q) := call_isi.or (call_isiSl (.ref C))
end
end OwnF

set_option Elab.async false
set_option linter.all false
set_option maxRecDepth 100000
set_option maxHeartbeats 2000000
/-! a method of an instance with slots -/
namespace OwnF
open PySem PySem.Spec PyProof.Rows L2 He SlX OwnR HookG
section
variable {X : Cx} {C g : Addr} {n : Nat} {sp : Sp} {fd : FuncData} {ps : List Str} {o e : Expr} {es : List Expr} {x : Str} {pos apos : Pos} {ta : TE} {t : TA}
theorem pe_mSl {pl : Sem Bool} (he : PE X o ta) (c : OC X.K C) (m : Mt X.K C x g) (kp : PySem.W.keepIn X.K (.ref g) = true) (F : FnOk X.prog X.w X.K X.mg X.base CX0 n g fd ps sp) (hb : Binds X.K fd ps []) (hr : Room n X.A) (ha : PA X (e :: es) t)
    (hst : starEach (e :: es) X.env = (false, eval e X.env) :: starEach es X.env := by rfl) (hpl : (backTo pos (starEach es X.env)).any (·.1) = false := by rfl)
    (ht : eval (.Call (.Attribute o x apos) (e :: es) [] pos) X.env = (do
      let ov ← eval o X.env
      standAt apos.atName
      let (f, first) ← holding [ov] (getMethod ov x pl)
      callWith pos f first (backTo pos (starEach (e :: es) X.env)) (backToKw pos (keywordEach [] X.env))) := by rfl) :
    PE X (.Call (.Attribute o x apos) (e :: es) [] pos) (tMethSl C sp E0 ta t) :=
  pe_methSl (pl := pl) he c.scl ⟨m.at_, m.fn, kp⟩ (raw0 F hb) hr pass0 ha hst hpl ht
end
end OwnF

set_option Elab.async false
set_option linter.all false
set_option maxRecDepth 100000
set_option maxHeartbeats 2000000
/-! classmethods, classes in local names, xs[i] op= e -/
namespace OwnC
open PySem PySem.Spec PyProof.Rows L2 He SlX OwnR HookG OwnF
/-- C.m is a classmethod: its record at p, its def at g -/
structure Cm (K : PySem.W.Frag) (C : Addr) (m : Str) (p g : Addr) : Prop where
  rd : ClX.CRead K C (.type "type")
  cm : ClX.CMet K C (.type "type") m p g
def cmB (K : PySem.W.Frag) (x m : Str) : Bool := PySem.W.readsIn K (ga K x) (.type "type") && (He5.wrapB K (ga K x) "classmethod" "classmethod.__get__" m && PySem.W.fnIn K (He5.wf K (ga K x) "classmethod" m))
theorem cread_of {K : PySem.W.Frag} {C : Addr} (h : PySem.W.readsIn K C (.type "type") = true) : ClX.CRead K C (.type "type") := by
  refine ⟨h, ?_⟩
  unfold PySem.W.readsIn at h
  obtain ⟨h, _⟩ := ba h
  obtain ⟨h, _⟩ := ba h
  obtain ⟨h, h3⟩ := ba h
  obtain ⟨_, h2⟩ := ba h
  unfold PySem.W.specialIn
  rw [beq_iff_eq.mp h2, Option.bind_some]
  exact beq_iff_eq.mp h3
theorem cmB_ok {K : PySem.W.Frag} {x m : Str} (h : cmB K x m = true) : Cm K (ga K x) m (ma K (ga K x) m) (He5.wf K (ga K x) "classmethod" m) := by
  obtain ⟨c1, c⟩ := ba h
  obtain ⟨c2, c3⟩ := ba c
  obtain ⟨h1, h2⟩ := He5.wrapB_ok c2
  exact ⟨cread_of c1, h1, h2, c3⟩
section
variable {X : Cx} {C p g f : Addr} {n i : Nat} {sp : Sp} {fd : FuncData} {ps : List Str} {o e : Expr} {es : List Expr} {m x : Str} {pos apos pp : Pos} {ta : TE} {t : TA}
theorem pe_cmF {pl : Sem Bool} (he : PE X o ta) (c : Cm X.K C m p g) (F : FnOk X.prog X.w X.K X.mg X.base CX0 n g fd ps sp) (hb : Binds X.K fd ps []) (hr : Room n X.A) (ha : PA X (e :: es) t)
    (hst : starEach (e :: es) X.env = (false, eval e X.env) :: starEach es X.env := by rfl) (hpl : (backTo pos (starEach es X.env)).any (·.1) = false := by rfl)
    (ht : eval (.Call (.Attribute o m apos) (e :: es) [] pos) X.env = (do
      let ov ← eval o X.env
      standAt apos.atName
      let (f, first) ← holding [ov] (getMethod ov m pl)
      callWith pos f first (backTo pos (starEach (e :: es) X.env)) (backToKw pos (keywordEach [] X.env))) := by rfl) :
    PE X (.Call (.Attribute o m apos) (e :: es) [] pos) (ClX.tCMeth C sp E0 ta t) :=
  ClX.pe_cmeth (pl := pl) he c.rd c.cm (raw0 F hb) hr pass0 ha hst hpl ht
/-- c(e, ..), c a local name that holds the class at C -/
def tMakeV (i : Nat) (C : Addr) (sp : Sp) (t : TA) : TE := fun σ H Q => σ[i]? = some (some (.ref C)) ∧ tMake C sp [] E0 t σ H Q
theorem pe_makeV (M : Mk X.K C f) (F : FnOk X.prog X.w X.K X.mg X.base CX0 n f fd ps sp) (hr : Room (n + 1) X.A) (hb : Binds X.K fd ps []) (hN : X.N[i]? = some x) (hv : Vis X.env.scope x) (ha : PA X (e :: es) t)
    (hd : (x == ("__debug__" : Str)) = false := by decide) (hcd : (x == ("__classdict__" : Str)) = false := by decide)
    (he : starEach (e :: es) X.env = (false, eval e X.env) :: starEach es X.env := by rfl) (hpl : (backTo pos (starEach es X.env)).any (·.1) = false := by rfl) : PE X (.Call (.Name x pp) (e :: es) [] pos) (tMakeV i C sp t) := by
  refine ⟨fun pins s σ H Q I h => ?_⟩
  obtain ⟨hs, h⟩ := h
  refine wpAny_Call_Name_kw (thn ((pe_var (pos := pp) (i := i) hN hv hd hcd).run pins s σ H (fun v H1 => v = .ref C ∧ H1 = H) I ⟨.ref C, hs, rfl, rfl⟩) fun u s1 ⟨v, H1, I1, r1, ev, eH⟩ => ?_)
  subst ev
  rw [eH] at I1
  cases r1
  refine PySem.W.callWith_K (h₀ := X.base) I.ok.mod.kin M.kp (thn (ha.run pos pins s1 σ H _ I1 h) fun us s2 ⟨vs, H2, I2, r, q⟩ => ⟨I2.kIn, ?_⟩) he hpl
  exact run_make M F hr hb .nil pass0 I2 r q
/-- xs[i], read for xs[i] op= e -/
def rGetL (K : PySem.W.Frag) : R2 := fun x y H Q => ∃ a xs j v, x = .ref a ∧ y = .int ((j : Nat) : Int) ∧ SqL K H a xs ∧ xs[j]? = some v ∧ Q v H
theorem get_list : PGet X (rGetL X.K) := by
  intro pins s σ H x y v u Q I rx ry h
  obtain ⟨a, xs, j, z, rfl, rfl, hq, he, q⟩ := h
  cases rx
  obtain ⟨t, rfl⟩ := ry
  obtain ⟨its, r, pl, hz⟩ := I.list hq
  obtain ⟨w, ew, rw'⟩ := r.get he
  have hl := r.length
  have hn := line63
  have hj : j < xs.length := (List.getElem?_eq_some_iff.mp he).1
  exact wpAny_getItem_list pl.isList (by omega) (by omega) (x := w) (by rw [Int.toNat_natCast]; simpa using ew) ⟨z, H, I, rw', q⟩
end
end OwnC

set_option Elab.async false
set_option linter.all false
set_option maxRecDepth 100000
set_option maxHeartbeats 2000000
/-! enumerate(t), t a tuple -/
namespace EnumT
open PySem PySem.Spec PyProof.Rows L2
open AutoSeq1 (wpAny_loadPart')
theorem meets_newT (l : Addr) (items : Array Value) (n : Nat) (dct : Option Addr) (sl : Array (Option Value)) :
    Meets (Builtin.«enumerate.__new__» ⟨[.type "enumerate", .ref l], []⟩) (fun _ R s => s.heap.get? l = some { cls := .type "tuple", dict := dct, data := .seq items n, slots := sl } ∧
      R (.ok (.ret (.ref (s.heap.push { cls := .type "tuple_iterator", data := .fields #[.ref l, .int 0 0] }).objs.size)))
        { s with heap := (s.heap.push { cls := .type "tuple_iterator", data := .fields #[.ref l, .int 0 0] }).push { cls := .type "enumerate", data := .fields #[.none, .bool false, .ref s.heap.objs.size, rawInt 0, .none, .none] } }) :=
  .of_wp fun prog w A R s h => by
    obtain ⟨hp, g, d, tk, os⟩ := s; obtain ⟨hl, h⟩ := h
    have hsub := sub_enumerate
    have hL : Heap.IsTuple (Shared.heap ⟨hp, g, d, tk, os⟩) l items := ⟨_, hl, rfl, n, rfl⟩
    wp_walk using wpAny_loadPart' hl
    refine wpAny_stack_any fun st => wpAny_pure ?_
    split
    · rename_i c _ _ _ _ _
      cases (c == Value.type "enumerate")
      · wp_walk using wpAny_loadPart' hl, wpAny_pyIter_tuple hL
        exact ⟨_, rfl, h⟩
      · wp_walk using wpAny_loadPart' hl, wpAny_pyIter_tuple hL
        exact ⟨_, rfl, h⟩
    · wp_walk using wpAny_loadPart' hl, wpAny_pyIter_tuple hL
      exact ⟨_, rfl, h⟩
section
variable {prog : Program} {w : World} {A : Around} {E : Value → Shared → Prop} {s : Shared}
theorem call_enumT {l : Addr} {items : Array Value} {Q : Value → Shared → Prop} (hL : s.heap.IsTuple l items)
    (h : ∀ h', IsEnum h' (s.heap.objs.size + 1) s.heap.objs.size 0 .none → h'.IsTupleIter s.heap.objs.size l 0 → h'.objs.size = s.heap.objs.size + 2 →
      (∀ b o, s.heap.get? b = some o → h'.get? b = some o) → Q (.ref (s.heap.objs.size + 1)) { s with heap := h' }) :
    wpAny (model prog w) A (call (.type "enumerate") [.ref l]) Q E s := by
  obtain ⟨⟨c, dct, dt, sl⟩, hl, hc, n, hd⟩ := hL
  replace hc : c = .type "tuple" := hc
  replace hd : dt = .seq items n := hd
  subst hc hd
  refine callType_new F.called_enumerate (by decide) (F.typeCall_enumerate_1 _) (F.newCall_enumerate_1 _) (fun obj => F.args_object_init_2 obj _) F.entry_enumerate_new
    (meets_newT l items n dct sl) ⟨hl, ?_⟩
  have hz : (s.heap.push { cls := .type "tuple_iterator", data := .fields #[.ref l, .int 0 0] }).objs.size = s.heap.objs.size + 1 := Heap.size_push ..
  show _ ∧ _
  rw [hz]
  have he : IsEnum ((s.heap.push { cls := .type "tuple_iterator", data := .fields #[.ref l, .int 0 0] }).push
      { cls := .type "enumerate", data := .fields #[.none, .bool false, .ref s.heap.objs.size, rawInt 0, .none, .none] }) (s.heap.objs.size + 1) s.heap.objs.size 0 .none := by
    have := Heap.get?_push_size (s.heap.push { cls := .type "tuple_iterator", data := .fields #[.ref l, .int 0 0] })
      (o := { cls := .type "enumerate", data := .fields #[.none, .bool false, .ref s.heap.objs.size, rawInt 0, .none, .none] }) rfl
    rw [hz] at this; exact this
  refine ⟨⟨_, he, rfl⟩, h _ he ⟨_, Heap.get?_push_of_some _ (Heap.get?_push_size _ rfl), rfl, rfl⟩ (by rw [Heap.size_push, hz]) fun b o x => Heap.get?_push_of_some _ (Heap.get?_push_of_some _ x)⟩
end
/-- the tuple at a, each item in a new pair -/
def IteT (K : PySem.W.Frag) (a : Addr) : It :=
  ⟨fun i H => ∃ (xs : List V) (x : V), SqT K H a xs ∧ xs[i]? = some x, fun i H v H' => ∃ T x, v = .ref T ∧ H T = none ∧ H' = upd H T (.tup [.int (i : Nat), x]) ∧ ∀ xs, SqT K H a xs → xs[i]? = some x, fun i H => ∃ xs : List V, SqT K H a xs ∧ xs.length = i⟩
theorem turn_enumT {P : Program} {w : World} {K : PySem.W.Frag} {elts : List Expr} {kk : Nat} {tpos : Pos} (a e it : Addr) (hait : a ≠ it) (hae : a ≠ e) :
    Turn P w K (.Tuple elts kk tpos) (IteT K a) [e, it] e (fun i h => (∃ old, IsEnum h e it ((i : Nat) : Int) old) ∧ h.IsTupleIter it a i ∧ e ≠ it) where
  mem := by simp
  obj := fun i h st b hb => by
    obtain ⟨⟨old, he⟩, ⟨o, ho, hc, hd⟩, _⟩ := st
    have e' : b = e ∨ b = it := by simpa using hb
    rcases e' with z | z
    · rw [z]; exact ⟨_, he, fun v q => nomatch q⟩
    · rw [z]; exact ⟨o, ho, fun v q => by rw [hd] at q; cases q⟩
  keep := fun i h h' st k => let ⟨⟨old, he⟩, hi, hne⟩ := st; ⟨⟨old, k e (by simp) _ he⟩, hi.at fun o q => k it (by simp) o q, hne⟩
  item := by
    intro X hP hw hK hc i pins s σ H E I hf st hg
    subst hP hw hK
    obtain ⟨⟨old, he⟩, hit, hne⟩ := st
    obtain ⟨xs, x, hq, hx⟩ := hg
    obtain ⟨its, rv, p, hz⟩ := I.tuple hq
    obtain ⟨u, hu, ru⟩ := rv.get hx
    have hel : e < s.heap.objs.size := Heap.lt_size he
    have hil : it < s.heap.objs.size := by obtain ⟨_, q, _⟩ := hit; exact Heap.lt_size q
    have pT : s.heap.IsTuple a its.toArray := p
    have hlt : i < its.toArray.size := by
      have := (List.getElem?_eq_some_iff.mp hu).1
      simpa using this
    refine wpAny_pyNext_enum_itemD (Draws.tuple (A := X.A.in1) (I.ok.hd hc) it a hait its.toArray) he ⟨hit, pT⟩ hlt hne (by simp [Ne.symm hae, hne]) fun x' h' tk hx' ho hit' hT hsz hk => ?_
    have hux : x' = u := by
      have h1 : its[i]? = some x' := by simpa using hx'
      rw [hu] at h1
      exact (Option.some.inj h1).symm
    subst hux
    refine ⟨_, rfl, wpAny_letOwnedTupleGo_enum (s := { s with heap := h', toks := tk + 1 }) ho fun h'' he' sb => ?_⟩
    have hT2 : h''.get? s.heap.objs.size = some { cls := .type "tuple", data := .seq #[.int i tk, x'] } := (sb.2 _ (Nat.ne_of_gt hel)).trans hT
    have new : ObjOk X.prog X.w (upd H s.heap.objs.size (.tup [.int (i : Nat), x])) h'' s.heap.objs.size (.tup [.int (i : Nat), x]) :=
      ⟨by show 2 ≤ sizeLine; decide, [.int i tk, x'], .cons ⟨_, rfl⟩ (.cons ru .nil), ⟨_, hT2, rfl, _, rfl⟩⟩
    have I1 : Inv X pins σ (upd H s.heap.objs.size (.tup [.int (i : Nat), x])) { s with heap := h'', toks := tk + 1 } :=
      I.turnedNew (ch := [e, it]) (fun b ob hb q => (sb.2 b (fun z => hb (by simp [z]))).trans (hk b ob (fun z => hb (by simp [z])) (fun z => hb (by simp [z])) q)) hf (Nat.le_refl _) new
    refine ⟨.ref s.heap.objs.size, _, I1, rfl, ⟨_, x, rfl, I.hok.fresh (Nat.le_refl _), rfl, fun ys hy => ?_⟩, ⟨⟨x', ?_⟩, hit'.1.at fun o q => (sb.2 it (Ne.symm hne)).trans q, hne⟩, fun b hb => ?_⟩
    · rw [show ys = xs from I.tuple_inj hy hq]
      exact hx
    · have e1 : ((i + 1 : Nat) : Int) = (i : Int) + 1 := by omega
      rw [e1]; exact he'
    · have hb' : b < s.heap.objs.size := by
        have e' : b = e ∨ b = it := by simpa using hb
        rcases e' with z | z
        · rw [z]; exact hel
        · rw [z]; exact hil
      rw [upd_ne (Nat.ne_of_lt hb')]
      exact (hf b hb).1
  done := by
    intro X hP hw hK hc i pins s σ H E I hf st hg
    subst hP hw hK
    obtain ⟨⟨old, he⟩, hit, hne⟩ := st
    obtain ⟨xs, hq, hx⟩ := hg
    obtain ⟨its, rv, p, hz⟩ := I.tuple hq
    obtain ⟨f0, f1, f2, f3, f4, f5⟩ := hf it (by simp)
    have hl := rv.length
    have hz2 : i = its.toArray.size := by rw [List.size_toArray]; omega
    subst hz2
    exact wpAny_pyNext_enum_endD (Draws.tuple (A := X.A.in1) (I.ok.hd hc) it a hait its.toArray) he ⟨hit, show s.heap.IsTuple a its.toArray from p⟩ fun h' eb => ⟨rfl, I.turned (t' := s.toks) (fun b o hb q => eb b o hb q) f0 f1 f3 f4 f5⟩
  self := fun A i s Q E st h => let ⟨⟨_, he⟩, _⟩ := st; wpAny_pyIter_enum he h
def iEnumT (K : PySem.W.Frag) (ta : TA) : TI := fun σ H R => ta σ H fun vs H1 => ∃ a xs, vs = [.ref a] ∧ SqT K H1 a xs ∧ R (IteT K a) H1
theorem pi_enumT {X : Cx} {e : Expr} {ta : TA} {p pos tpos : Pos} {elts : List Expr} {kk : Nat} (hg : Gl X "enumerate") (hm : X.mg "enumerate" = none) (ha : PA X [e] ta) (hs : starEach [e] X.env = [(false, eval e X.env)] := by rfl) :
    PI X (.Tuple elts kk tpos) (.Call (.Name "enumerate" p) [e] [] pos) (iEnumT X.K ta) := by
  refine ⟨fun pins s σ H R I h => ?_⟩
  refine Call_ (ld_blt I hg hm boot_enumerate (PyProof.Rows.callWith_type1 (thn (ha.run pos pins s σ H _ I h) fun us s1 ⟨vs, H1, I1, r1, q1⟩ => ?_) hs rfl))
  obtain ⟨a, xs, ex, hq, q⟩ := q1
  subst ex
  cases r1 with
  | cons r rr =>
    cases rr
    cases r
    obtain ⟨its, rv, p', hz⟩ := I1.tuple hq
    have hlt : a < s1.heap.objs.size := by obtain ⟨_, ho, _⟩ := p'; exact Heap.lt_size ho
    refine call_enumT (show s1.heap.IsTuple a its.toArray from p') fun h' he hit hsz hk => wpAny_pyIter_enum he ?_
    have I2 : Inv X pins σ H1 { s1 with heap := h' } := I1.kept (t' := s1.toks) hk
    refine ⟨s1.heap.objs.size + 1, [s1.heap.objs.size + 1, s1.heap.objs.size], _, _, H1, rfl, I2, turn_enumT a (s1.heap.objs.size + 1) s1.heap.objs.size (Nat.ne_of_lt hlt) (Nat.ne_of_lt (Nat.lt_succ_of_lt hlt)), ⟨⟨.none, he⟩, hit, Nat.succ_ne_self _⟩, fun b hb => ?_, q⟩
    have e' : b = s1.heap.objs.size + 1 ∨ b = s1.heap.objs.size := by simpa using hb
    have hle : s1.heap.objs.size ≤ b := by
      rcases e' with z | z
      · rw [z]; exact Nat.le_add_right _ _
      · rw [z]; exact Nat.le_refl _
    exact I1.fpOk hle (I1.hok.fresh hle)
/-- a loop over enumerate of a tuple -/
theorem for_enumT {K : PySem.W.Frag} {a : Addr} {xs : List V} {g : TG} {tb : TS} {D : Ends} {σ : L2.St} {H : Hp} (Pv : Nat → L2.St → Hp → Prop) (h0 : Pv 0 σ H) (hq : ∀ i σ H, Pv i σ H → SqT K H a xs)
    (hs : ∀ (i : Nat) (x : V) (T : Addr) (σ : L2.St) (H : Hp), xs[i]? = some x → Pv i σ H → H T = none → g (.ref T) σ (upd H T (.tup [.int (i : Nat), x])) fun σ2 H2 => tb { D with nx := Pv (i + 1), ct := Pv (i + 1), bk := D.nx } σ2 H2) (hd : ∀ σ H, Pv xs.length σ H → D.nx σ H) :
    ∃ W : Nat → Nat → L2.St → Hp → Prop, (∃ m, W 0 m σ H) ∧ ∀ i m σ H, W i m σ H →
      ((IteT K a).stop i H ∧ D.nx σ H) ∨ ((IteT K a).go i H ∧ ∃ N : L2.St → Hp → Prop, (∀ σ' H', N σ' H' → ∃ m', m' < m ∧ W (i + 1) m' σ' H') ∧ ∀ v H', (IteT K a).yld i H v H' → g v σ H' fun σ2 H2 => tb { D with nx := N, ct := N, bk := D.nx } σ2 H2) := by
  refine ⟨fun i m σ H => m = xs.length - i ∧ i ≤ xs.length ∧ Pv i σ H, ⟨xs.length, rfl, Nat.zero_le _, h0⟩, ?_⟩
  rintro i m σ H ⟨rfl, hi, p⟩
  have qx := hq i σ H p
  by_cases hlt : i < xs.length
  · have hx : xs[i]? = some xs[i] := List.getElem?_eq_getElem hlt
    refine .inr ⟨⟨xs, _, qx, hx⟩, Pv (i + 1), fun σ' H' p' => ⟨xs.length - (i + 1), by omega, rfl, hlt, p'⟩, fun v H' y => ?_⟩
    obtain ⟨T, x', rfl, hT, rfl, f1⟩ := y
    exact hs i x' T σ H (f1 xs qx) p hT
  · have e : i = xs.length := by omega
    subst e
    exact .inl ⟨⟨xs, qx, rfl⟩, hd σ H p⟩
end EnumT

set_option Elab.async false
set_option linter.all false
set_option maxRecDepth 100000
set_option maxHeartbeats 2000000
/-! sequences that may be a list or a tuple: len, index, enumerate -/
namespace SeqE
open PySem PySem.Spec PyProof.Rows L2
/-- at a a list or a tuple with these items -/
def Sq (H : Hp) (a : Addr) (xs : List V) : Prop := H a = some (.tup xs) ∨ H a = some (.lst xs)
theorem Sq.same {H H' : Hp} {a : Addr} {xs : List V} (h : Sq H a xs) (s : Same H H') : Sq H' a xs := h.elim (fun e => .inl (s _ _ e)) fun e => .inr (s _ _ e)
theorem Sq.upd {H : Hp} {a p : Addr} {o : HO} {xs : List V} (h : Sq H a xs) (hp : H p = none) : Sq (upd H p o) a xs := by
  refine h.elim (fun e => .inl ?_) fun e => .inr ?_ <;> rw [upd_ne (ne_of_none e hp)] <;> exact e
end SeqE

set_option Elab.async false
set_option linter.all false
set_option maxRecDepth 100000
/-! A slot read inside a comprehension: the fragment is named, not read off the inner context. -/
namespace SlotK
open PySem PySem.Spec PyProof.Rows L2 SlX
variable {X : Cx} {e : Expr} {f : Str} {pos : Pos} {ta : TE} {K : PySem.W.Frag}
theorem pe_slK (hK : X.K = K) (he : PE X e ta) (hb : attributeBase e f X.env (eval e X.env) = eval e X.env := by rfl) : PE X (.Attribute e f pos) (tSl K ta f) := by
  subst hK
  exact pe_sl he hb
end SlotK

set_option Elab.async false
set_option linter.all false
set_option maxRecDepth 100000
/-! products of forms: the plain law -/
namespace K52
/-- the entry at a place, 0 behind the end -/
def co (l : List Int) (k : Nat) : Int := l.getD k 0
/-- the entries of a product -/
def cv : List Int → (Nat → Int) → Nat → Int
  | [], _, _ => 0
  | x :: xs, g, k => x * g k + (match k with
    | 0 => 0
    | k + 1 => cv xs g k)
theorem cv_zero (x : Int) (xs : List Int) (g : Nat → Int) : cv (x :: xs) g 0 = x * g 0 := by show x * g 0 + 0 = _; omega
theorem cv_succ (x : Int) (xs : List Int) (g : Nat → Int) (k : Nat) : cv (x :: xs) g (k + 1) = x * g (k + 1) + cv xs g k := rfl
theorem cv_congr {g h : Nat → Int} : ∀ (l : List Int) (k : Nat), (∀ i, i ≤ k → g i = h i) → cv l g k = cv l h k
  | [], _, _ => rfl
  | x :: xs, 0, e => by rw [cv_zero, cv_zero, e 0 (Nat.le_refl _)]
  | x :: xs, k + 1, e => by rw [cv_succ, cv_succ, e (k + 1) (Nat.le_refl _), cv_congr xs k fun i hi => e i (by omega)]
theorem cv_ext {g h : Nat → Int} (l : List Int) (e : ∀ i, g i = h i) (k : Nat) : cv l g k = cv l h k := cv_congr l k fun i _ => e i
theorem cv_add (l : List Int) (g h : Nat → Int) : ∀ k, cv l (fun i => g i + h i) k = cv l g k + cv l h k := by
  induction l with
  | nil => intro k; rfl
  | cons x xs ih =>
    intro k
    cases k with
    | zero => rw [cv_zero, cv_zero, cv_zero, Int.mul_add]
    | succ k => rw [cv_succ, cv_succ, cv_succ, ih, Int.mul_add]; omega
theorem cv_mul (l : List Int) (c : Int) (g : Nat → Int) : ∀ k, cv l (fun i => c * g i) k = c * cv l g k := by
  induction l with
  | nil => intro k; show (0 : Int) = c * 0; rw [Int.mul_zero]
  | cons x xs ih =>
    intro k
    cases k with
    | zero => rw [cv_zero, cv_zero]; rw [← Int.mul_assoc, Int.mul_comm x c, Int.mul_assoc]
    | succ k => rw [cv_succ, cv_succ, ih, Int.mul_add, ← Int.mul_assoc, Int.mul_comm x c, Int.mul_assoc]
theorem cv_zeroF (l : List Int) : ∀ k, cv l (fun _ => 0) k = 0 := by
  induction l with
  | nil => intro k; rfl
  | cons x xs ih =>
    intro k
    cases k with
    | zero => rw [cv_zero, Int.mul_zero]
    | succ k => rw [cv_succ, ih, Int.mul_zero]; rfl
/-- what is moved by one place -/
def sh (g : Nat → Int) : Nat → Int
  | 0 => 0
  | k + 1 => g k
theorem cv_sh (l : List Int) (g : Nat → Int) : ∀ k, cv l (sh g) k = sh (cv l g) k := by
  induction l with
  | nil => intro k; cases k <;> rfl
  | cons x xs ih =>
    intro k
    cases k with
    | zero => rw [cv_zero]; show x * 0 = 0; rw [Int.mul_zero]
    | succ k =>
      rw [cv_succ, ih]
      show x * g k + sh (cv xs g) k = cv (x :: xs) g k
      cases k with
      | zero => rw [cv_zero]; show x * g 0 + 0 = x * g 0; omega
      | succ k => rw [cv_succ] <;> rfl
theorem cv_cons (x : Int) (xs : List Int) (g : Nat → Int) (k : Nat) : cv (x :: xs) g k = x * g k + sh (cv xs g) k := by
  cases k with
  | zero => rw [cv_zero]; show x * g 0 = x * g 0 + 0; omega
  | succ k => rw [cv_succ] <;> rfl
theorem co_cons (x : Int) (xs : List Int) (k : Nat) : co (x :: xs) k = (if k = 0 then x else 0) + sh (co xs) k := by
  cases k with
  | zero => show x = x + 0; omega
  | succ k =>
    show co xs k = (if k + 1 = 0 then x else 0) + co xs k
    rw [if_neg (by omega)]
    omega
/-- a constant times -/
theorem cv_one (l : List Int) : ∀ k, cv l (fun i => if i = 0 then 1 else 0) k = co l k := by
  induction l with
  | nil => intro k; rfl
  | cons x xs ih =>
    intro k
    cases k with
    | zero => rw [cv_zero, if_pos rfl, Int.mul_one]; rfl
    | succ k => rw [cv_succ, if_neg (by omega), Int.mul_zero, ih]; show 0 + co xs k = co xs k; omega
theorem cv_delta (l : List Int) (x : Int) (k : Nat) : cv l (fun i => if i = 0 then x else 0) k = x * co l k := by
  rw [← cv_one l k, ← cv_mul]
  refine cv_ext l (fun i => ?_) k
  by_cases h : i = 0
  · rw [if_pos h, if_pos h, Int.mul_one]
  · rw [if_neg h, if_neg h, Int.mul_zero]
theorem cv_comm (l m : List Int) : ∀ k, cv l (co m) k = cv m (co l) k := by
  induction l with
  | nil =>
    intro k
    rw [show cv m (co []) k = cv m (fun _ => 0) k from cv_ext m (fun i => rfl) k, cv_zeroF]
    rfl
  | cons x xs ih =>
    intro k
    rw [cv_cons, cv_ext m (h := fun i => (if i = 0 then x else 0) + sh (co xs) i) (fun i => co_cons x xs i), cv_add, cv_delta, cv_sh]
    congr 1
    cases k with
    | zero => rfl
    | succ k => exact ih k
theorem cv_far {g : Nat → Int} {b : Nat} (hb : 1 ≤ b) (hg : ∀ i, b ≤ i → g i = 0) : ∀ (l : List Int) (k : Nat), l.length + b ≤ k + 1 → cv l g k = 0
  | [], _, _ => rfl
  | x :: xs, 0, h => by rw [List.length_cons] at h; omega
  | x :: xs, k + 1, h => by
    rw [List.length_cons] at h
    rw [cv_succ, hg _ (by omega), Int.mul_zero, cv_far hb hg xs k (by omega)]
    rfl
/-- the first n values -/
def tb (n : Nat) (f : Nat → Int) : List Int := (List.range n).map f
theorem tb_len (n : Nat) (f : Nat → Int) : (tb n f).length = n := by
  unfold tb
  rw [List.length_map, List.length_range]
theorem co_tb {n : Nat} {f : Nat → Int} (k : Nat) : co (tb n f) k = if k < n then f k else 0 := by
  unfold co tb
  rw [List.getD_eq_getElem?_getD, List.getElem?_map]
  by_cases h : k < n
  · rw [List.getElem?_range h, if_pos h]
    rfl
  · rw [List.getElem?_eq_none (by rw [List.length_range]; omega), if_neg h]
    rfl
theorem co_far {l : List Int} {i : Nat} (h : l.length ≤ i) : co l i = 0 := by
  unfold co
  rw [List.getD_eq_getElem?_getD, List.getElem?_eq_none h]
  rfl
theorem co_get {l : List Int} {i : Nat} (h : i < l.length) : co l i = l[i] := by
  unfold co
  rw [List.getD_eq_getElem?_getD, List.getElem?_eq_getElem h]
  rfl
theorem co_inj {l m : List Int} (hl : l.length = m.length) (h : ∀ i, co l i = co m i) : l = m := by
  refine List.ext_getElem hl fun i h1 h2 => ?_
  rw [← co_get h1, ← co_get h2, h]
theorem tb_co (l : List Int) : tb l.length (co l) = l := co_inj (tb_len _ _) fun i => by
  rw [co_tb]
  split
  · rfl
  · exact (co_far (by omega)).symm
/-- the product of two forms -/
def ml (l m : List Int) : List Int := tb (l.length + m.length - 1) (cv l (co m))
theorem ml_len (l m : List Int) : (ml l m).length = l.length + m.length - 1 := tb_len _ _
theorem co_ml {l m : List Int} (hm : m ≠ []) (k : Nat) : co (ml l m) k = cv l (co m) k := by
  unfold ml
  rw [co_tb]
  by_cases h : k < l.length + m.length - 1
  · rw [if_pos h]
  · rw [if_neg h]
    have h1 : 0 < m.length := List.length_pos_iff.mpr hm
    exact (cv_far (b := m.length) (by omega) (fun i hi => co_far hi) l k (by omega)).symm
theorem ml_comm (l m : List Int) : ml l m = ml m l := by
  unfold ml
  rw [Nat.add_comm]
  unfold tb
  exact List.map_congr_left fun k _ => cv_comm l m k
/-- entry by entry -/
def pl (l m : List Int) : List Int := List.zipWith (· + ·) l m
theorem pl_len {l m : List Int} (h : l.length = m.length) : (pl l m).length = l.length := by
  unfold pl
  rw [List.length_zipWith, h, Nat.min_self]
end K52

set_option Elab.async false
set_option linter.all false
set_option maxRecDepth 100000
/-! the contents of forms -/
namespace K52
theorem least (P : Nat → Prop) (n : Nat) (h : P n) : ∃ m, P m ∧ ∀ k, P k → m ≤ k := by
  induction n using Nat.strongRecOn with
  | _ n ih =>
    by_cases c : ∃ k, k < n ∧ P k
    · obtain ⟨k, hk, pk⟩ := c
      exact ih k hk pk
    · exact ⟨n, h, fun k pk => Nat.le_of_not_lt fun z => c ⟨k, z, pk⟩⟩
structure Prm (p : Nat) : Prop where
  gt : 1 < p
  pr : ∀ a b : Nat, p ∣ a * b → p ∣ a ∨ p ∣ b
theorem Prm.int {p : Nat} (h : Prm p) {x y : Int} (d : (p : Int) ∣ x * y) : (p : Int) ∣ x ∨ (p : Int) ∣ y := by
  have e := Int.natAbs_dvd_natAbs.mpr d
  rw [Int.natAbs_mul] at e
  rcases h.pr _ _ e with e | e
  · exact .inl (Int.natAbs_dvd_natAbs.mp e)
  · exact .inr (Int.natAbs_dvd_natAbs.mp e)
/-- the greatest common divisor of all -/
def cont : List Int → Nat
  | [] => 0
  | x :: xs => Nat.gcd x.natAbs (cont xs)
theorem cont_dvd : ∀ (l : List Int) (x : Int), x ∈ l → (cont l : Int) ∣ x
  | y :: ys, x, h => by
    rcases List.mem_cons.mp h with e | e
    · rw [e]
      exact Int.natAbs_dvd_natAbs.mp (by show Nat.gcd _ _ ∣ _; exact Nat.gcd_dvd_left _ _)
    · have := cont_dvd ys x e
      exact Int.dvd_trans (Int.natAbs_dvd_natAbs.mp (by show Nat.gcd _ _ ∣ cont ys; exact Nat.gcd_dvd_right _ _)) this
theorem co_mem {l : List Int} {k : Nat} : co l k = 0 ∨ co l k ∈ l := by
  by_cases h : k < l.length
  · rw [co_get h]
    exact .inr (List.getElem_mem h)
  · exact .inl (co_far (by omega))
theorem co_map (c : Int) (l : List Int) (k : Nat) : co (l.map (c * ·)) k = c * co l k := by
  by_cases h : k < l.length
  · rw [co_get (by rw [List.length_map]; exact h), co_get h, List.getElem_map]
  · rw [co_far (by rw [List.length_map]; omega), co_far (by omega), Int.mul_zero]
end K52

set_option Elab.async false
set_option linter.all false
set_option maxRecDepth 100000
set_option maxHeartbeats 4000000
namespace K52
open PySem PySem.Spec PyProof.Rows L2 SlX OwnR OwnF
theorem hu64 {k : Nat} {A : Around} (hr : Room k A) : A.units + 64 < cLine := hr.units
theorem same_upd0 {H : Hp} {p : Addr} {o : HO} (h : H p = none) : Same H (upd H p o) := fun b x e => by
  rw [upd_ne (ne_of_none e h)]
  exact e
def topS (i : Nat) : Stmt := PySem.Challenge.pw_sourceforms_k52_whole_layings_over_prime.main.body.getD i (.Pass ⟨0, 0, 0, 0⟩)
abbrev FnM (K : PySem.W.Frag) (x q : Str) (st : Stmt) (f : Addr) (fd : FuncData) : Prop := FunD K x q (defArgs st) (defBody st) (defScope st) [] [] f fd
abbrev FnP (K : PySem.W.Frag) (x : Str) (st : Stmt) (f : Addr) (fd : FuncData) : Prop := FunD K x x (defArgs st) (defBody st) (defScope st) [] [] f fd
abbrev s_is_whole : Stmt := topS 11
abbrev N_is_whole : List Str := ["value"]
theorem sc_is_whole : FnScope N_is_whole ["value"] (defScope s_is_whole) := ⟨rfl, rfl, rfl, by decide +kernel, rfl, by decide +kernel, by decide +kernel⟩
abbrev s_is_short : Stmt := topS 12
abbrev N_is_short : List Str := ["value"]
theorem sc_is_short : FnScope N_is_short ["value"] (defScope s_is_short) := ⟨rfl, rfl, rfl, by decide +kernel, rfl, by decide +kernel, by decide +kernel⟩
abbrev s_is_from : Stmt := topS 13
abbrev N_is_from : List Str := ["value", "least", "most"]
theorem sc_is_from : FnScope N_is_from ["value", "least", "most"] (defScope s_is_from) := ⟨rfl, rfl, rfl, by decide +kernel, rfl, by decide +kernel, by decide +kernel⟩
abbrev s_are_short : Stmt := topS 14
abbrev N_are_short : List Str := ["value", "entry"]
theorem sc_are_short : FnScope N_are_short ["value"] (defScope s_are_short) := ⟨rfl, rfl, rfl, by decide +kernel, rfl, by decide +kernel, by decide +kernel⟩
abbrev s_require_short : Stmt := topS 15
abbrev s_require_from : Stmt := topS 16
abbrev s_lots_of : Stmt := topS 17
abbrev N_lots_of : List Str := ["many", "few", "found", "at"]
theorem sc_lots_of : FnScope N_lots_of ["many", "few"] (defScope s_lots_of) := ⟨rfl, rfl, rfl, by decide +kernel, rfl, by decide +kernel, by decide +kernel⟩
abbrev s_is_change : Stmt := topS 18
abbrev s_require_change : Stmt := topS 19
abbrev s_product_in : Stmt := topS 22
abbrev N_product_in : List Str := ["one", "other"]
theorem sc_product_in : FnScope N_product_in ["one", "other"] (defScope s_product_in) := ⟨rfl, rfl, rfl, by decide +kernel, rfl, by decide +kernel, by decide +kernel⟩
abbrev s_joined_entries : Stmt := topS 23
abbrev N_joined_entries : List Str := ["one", "other", "found", "place", "at"]
theorem sc_joined_entries : FnScope N_joined_entries ["one", "other"] (defScope s_joined_entries) := ⟨rfl, rfl, rfl, by decide +kernel, rfl, by decide +kernel, by decide +kernel⟩
abbrev s_power_in : Stmt := topS 24
abbrev s_value_in : Stmt := topS 25
abbrev s_changed_in : Stmt := topS 26
abbrev N_changed_in : List Str := ["entries", "table", "found", "power", "entry", "longer", "first", "second"]
theorem sc_changed_in : FnScope N_changed_in ["entries", "table"] (defScope s_changed_in) := ⟨rfl, rfl, rfl, by decide +kernel, rfl, by decide +kernel, by decide +kernel⟩
abbrev s_is_zero_in : Stmt := topS 28
abbrev s_are_entries : Stmt := topS 30
abbrev N_are_entries : List Str := ["value"]
theorem sc_are_entries : FnScope N_are_entries ["value"] (defScope s_are_entries) := ⟨rfl, rfl, rfl, by decide +kernel, rfl, by decide +kernel, by decide +kernel⟩
abbrev s_form_of : Stmt := topS 32
abbrev N_form_of : List Str := ["entries"]
theorem sc_form_of : FnScope N_form_of ["entries"] (defScope s_form_of) := ⟨rfl, rfl, rfl, by decide +kernel, rfl, by decide +kernel, by decide +kernel⟩
abbrev s_require_form : Stmt := topS 33
abbrev N_require_form : List Str := ["value"]
theorem sc_require_form : FnScope N_require_form ["value"] (defScope s_require_form) := ⟨rfl, rfl, rfl, by decide +kernel, rfl, by decide +kernel, by decide +kernel⟩
abbrev s_sum_in : Stmt := topS 34
abbrev s_laying_slope : Stmt := topS 37
abbrev N_laying_slope : List Str := ["entries", "by_y", "at", "entry"]
theorem sc_laying_slope : FnScope N_laying_slope ["entries", "by_y"] (defScope s_laying_slope) := ⟨rfl, rfl, rfl, by decide +kernel, rfl, by decide +kernel, by decide +kernel⟩
abbrev s_laying_slopes : Stmt := topS 38
abbrev N_laying_slopes : List Str := ["entries", "times", "found", "turn", "one"]
theorem sc_laying_slopes : FnScope N_laying_slopes ["entries", "times"] (defScope s_laying_slopes) := ⟨rfl, rfl, rfl, by decide +kernel, rfl, by decide +kernel, by decide +kernel⟩
abbrev s_add_product : Stmt := topS 39
abbrev N_add_product : List Str := ["found", "one", "other", "factor", "at", "first", "place", "second"]
theorem sc_add_product : FnScope N_add_product ["found", "one", "other", "factor"] (defScope s_add_product) := ⟨rfl, rfl, rfl, by decide +kernel, rfl, by decide +kernel, by decide +kernel⟩
abbrev s_laid_in : Stmt := topS 40
abbrev N_laid_in : List Str := ["one", "other", "times", "found", "first", "second", "at"]
theorem sc_laid_in : FnScope N_laid_in ["one", "other", "times"] (defScope s_laid_in) := ⟨rfl, rfl, rfl, by decide +kernel, rfl, by decide +kernel, by decide +kernel⟩
abbrev s_laid : Stmt := topS 41
abbrev N_laid : List Str := ["one", "other", "times"]
theorem sc_laid : FnScope N_laid ["one", "other", "times"] (defScope s_laid) := ⟨rfl, rfl, rfl, by decide +kernel, rfl, by decide +kernel, by decide +kernel⟩
abbrev s_require_prime : Stmt := topS 45
abbrev N_require_prime : List Str := ["value"]
theorem sc_require_prime : FnScope N_require_prime ["value"] (defScope s_require_prime) := ⟨rfl, rfl, rfl, by decide +kernel, rfl, by decide +kernel, by decide +kernel⟩
abbrev s_modulo : Stmt := topS 46
abbrev N_modulo : List Str := ["prime", "numbers", "number"]
theorem sc_modulo : FnScope N_modulo ["prime", "numbers"] (defScope s_modulo) := ⟨rfl, rfl, rfl, by decide +kernel, rfl, by decide +kernel, by decide +kernel⟩
abbrev s_determinant_in : Stmt := topS 47
abbrev N_determinant_in : List Str := ["table"]
theorem sc_determinant_in : FnScope N_determinant_in ["table"] (defScope s_determinant_in) := ⟨rfl, rfl, rfl, by decide +kernel, rfl, by decide +kernel, by decide +kernel⟩
abbrev s_is_prime_table : Stmt := topS 48
abbrev N_is_prime_table : List Str := ["prime", "value", "row", "one"]
theorem sc_is_prime_table : FnScope N_is_prime_table ["prime", "value"] (defScope s_is_prime_table) := ⟨rfl, rfl, rfl, by decide +kernel, rfl, by decide +kernel, by decide +kernel⟩
abbrev s_require_prime_table : Stmt := topS 49
abbrev N_require_prime_table : List Str := ["prime", "value"]
theorem sc_require_prime_table : FnScope N_require_prime_table ["prime", "value"] (defScope s_require_prime_table) := ⟨rfl, rfl, rfl, by decide +kernel, rfl, by decide +kernel, by decide +kernel⟩
abbrev s_changed_modulo : Stmt := topS 52
abbrev N_changed_modulo : List Str := ["form", "table", "rows", "row"]
theorem sc_changed_modulo : FnScope N_changed_modulo ["form", "table"] (defScope s_changed_modulo) := ⟨rfl, rfl, rfl, by decide +kernel, rfl, by decide +kernel, by decide +kernel⟩
abbrev s_law_dice : Stmt := topS 54
abbrev N_law_dice : List Str := ["_law_script", "_law_spot", "_law_cell", "_law_left"]
theorem sc_law_dice : FnScope N_law_dice ["_law_script", "_law_spot"] (defScope s_law_dice) := ⟨rfl, rfl, rfl, by decide +kernel, rfl, by decide +kernel, by decide +kernel⟩
abbrev s_law_roll : Stmt := topS 55
abbrev N_law_roll : List Str := ["_law_dice_here", "_law_total", "_law_found", "_law_one", "_law_two"]
theorem sc_law_roll : FnScope N_law_roll ["_law_dice_here", "_law_total"] (defScope s_law_roll) := ⟨rfl, rfl, rfl, by decide +kernel, rfl, by decide +kernel, by decide +kernel⟩
abbrev s_law_pick : Stmt := topS 56
abbrev N_law_pick : List Str := ["_law_dice_here", "_law_items"]
theorem sc_law_pick : FnScope N_law_pick ["_law_dice_here", "_law_items"] (defScope s_law_pick) := ⟨rfl, rfl, rfl, by decide +kernel, rfl, by decide +kernel, by decide +kernel⟩
abbrev s_law_near : Stmt := topS 57
abbrev N_law_near : List Str := ["_law_dice_here", "_law_most"]
theorem sc_law_near : FnScope N_law_near ["_law_dice_here", "_law_most"] (defScope s_law_near) := ⟨rfl, rfl, rfl, by decide +kernel, rfl, by decide +kernel, by decide +kernel⟩
abbrev s_law_gcd : Stmt := topS 58
abbrev N_law_gcd : List Str := ["_law_one", "_law_other"]
theorem sc_law_gcd : FnScope N_law_gcd ["_law_one", "_law_other"] (defScope s_law_gcd) := ⟨rfl, rfl, rfl, by decide +kernel, rfl, by decide +kernel, by decide +kernel⟩
abbrev s_law_shared : Stmt := topS 59
abbrev N_law_shared : List Str := ["_law_numbers", "_law_found", "_law_number"]
theorem sc_law_shared : FnScope N_law_shared ["_law_numbers"] (defScope s_law_shared) := ⟨rfl, rfl, rfl, by decide +kernel, rfl, by decide +kernel, by decide +kernel⟩
abbrev s_law_raised : Stmt := topS 60
abbrev N_law_raised : List Str := ["_law_number", "_law_times", "_law_found", "_law_turn"]
theorem sc_law_raised : FnScope N_law_raised ["_law_number", "_law_times"] (defScope s_law_raised) := ⟨rfl, rfl, rfl, by decide +kernel, rfl, by decide +kernel, by decide +kernel⟩
abbrev s_law_choose : Stmt := topS 61
abbrev N_law_choose : List Str := ["_law_many", "_law_few", "_law_found", "_law_at"]
theorem sc_law_choose : FnScope N_law_choose ["_law_many", "_law_few"] (defScope s_law_choose) := ⟨rfl, rfl, rfl, by decide +kernel, rfl, by decide +kernel, by decide +kernel⟩
abbrev s_law_plus : Stmt := topS 62
abbrev N_law_plus : List Str := ["_law_one", "_law_other", "_law_first", "_law_second"]
theorem sc_law_plus : FnScope N_law_plus ["_law_one", "_law_other"] (defScope s_law_plus) := ⟨rfl, rfl, rfl, by decide +kernel, rfl, by decide +kernel, by decide +kernel⟩
abbrev s_law_scaled : Stmt := topS 63
abbrev N_law_scaled : List Str := ["_law_form_here", "_law_factor", "_law_entry"]
theorem sc_law_scaled : FnScope N_law_scaled ["_law_form_here", "_law_factor"] (defScope s_law_scaled) := ⟨rfl, rfl, rfl, by decide +kernel, rfl, by decide +kernel, by decide +kernel⟩
abbrev s_law_product : Stmt := topS 64
abbrev N_law_product : List Str := ["_law_one", "_law_other", "_law_found", "_law_place", "_law_at", "_law_first", "_law_second"]
theorem sc_law_product : FnScope N_law_product ["_law_one", "_law_other"] (defScope s_law_product) := ⟨rfl, rfl, rfl, by decide +kernel, rfl, by decide +kernel, by decide +kernel⟩
abbrev s_law_all_product : Stmt := topS 65
abbrev N_law_all_product : List Str := ["_law_forms", "_law_found", "_law_form_here"]
theorem sc_law_all_product : FnScope N_law_all_product ["_law_forms"] (defScope s_law_all_product) := ⟨rfl, rfl, rfl, by decide +kernel, rfl, by decide +kernel, by decide +kernel⟩
abbrev s_law_power : Stmt := topS 66
abbrev N_law_power : List Str := ["_law_pair", "_law_times", "_law_found", "_law_turn"]
theorem sc_law_power : FnScope N_law_power ["_law_pair", "_law_times"] (defScope s_law_power) := ⟨rfl, rfl, rfl, by decide +kernel, rfl, by decide +kernel, by decide +kernel⟩
abbrev s_law_by_x : Stmt := topS 67
abbrev N_law_by_x : List Str := ["_law_form_here", "_law_at", "_law_entry"]
theorem sc_law_by_x : FnScope N_law_by_x ["_law_form_here"] (defScope s_law_by_x) := ⟨rfl, rfl, rfl, by decide +kernel, rfl, by decide +kernel, by decide +kernel⟩
abbrev s_law_by_y : Stmt := topS 68
abbrev N_law_by_y : List Str := ["_law_form_here", "_law_at", "_law_entry"]
theorem sc_law_by_y : FnScope N_law_by_y ["_law_form_here"] (defScope s_law_by_y) := ⟨rfl, rfl, rfl, by decide +kernel, rfl, by decide +kernel, by decide +kernel⟩
abbrev s_law_derived : Stmt := topS 69
abbrev N_law_derived : List Str := ["_law_form_here", "_law_one", "_law_other", "_law_turn"]
theorem sc_law_derived : FnScope N_law_derived ["_law_form_here", "_law_one", "_law_other"] (defScope s_law_derived) := ⟨rfl, rfl, rfl, by decide +kernel, rfl, by decide +kernel, by decide +kernel⟩
abbrev s_law_laid : Stmt := topS 70
abbrev N_law_laid : List Str := ["_law_one", "_law_other", "_law_times", "_law_found", "_law_place", "_law_at", "_law_piece", "_law_number"]
theorem sc_law_laid : FnScope N_law_laid ["_law_one", "_law_other", "_law_times"] (defScope s_law_laid) := ⟨rfl, rfl, rfl, by decide +kernel, rfl, by decide +kernel, by decide +kernel⟩
abbrev s_law_plain : Stmt := topS 71
abbrev N_law_plain : List Str := ["_law_form_here", "_law_part", "_law_first", "_law_entry"]
theorem sc_law_plain : FnScope N_law_plain ["_law_form_here"] (defScope s_law_plain) := ⟨rfl, rfl, rfl, by decide +kernel, rfl, by decide +kernel, by decide +kernel⟩
abbrev s_law_line : Stmt := topS 72
abbrev N_law_line : List Str := ["_law_point_here"]
theorem sc_law_line : FnScope N_law_line ["_law_point_here"] (defScope s_law_line) := ⟨rfl, rfl, rfl, by decide +kernel, rfl, by decide +kernel, by decide +kernel⟩
abbrev s_law_point : Stmt := topS 73
abbrev N_law_point : List Str := ["_law_dice_here", "_law_most", "_law_one", "_law_other"]
theorem sc_law_point : FnScope N_law_point ["_law_dice_here", "_law_most"] (defScope s_law_point) := ⟨rfl, rfl, rfl, by decide +kernel, rfl, by decide +kernel, by decide +kernel⟩
abbrev s_law_small_form : Stmt := topS 74
abbrev N_law_small_form : List Str := ["_law_dice_here", "_law_degree", "_law_most", "_law_place"]
theorem sc_law_small_form : FnScope N_law_small_form ["_law_dice_here", "_law_degree", "_law_most"] (defScope s_law_small_form) := ⟨rfl, rfl, rfl, by decide +kernel, rfl, by decide +kernel, by decide +kernel⟩
abbrev s_law_form : Stmt := topS 75
abbrev N_law_form : List Str := ["_law_dice_here", "_law_degree", "_law_way", "_law_turn", "_law_line_here", "_law_often", "_law_found", "_law_place"]
theorem sc_law_form : FnScope N_law_form ["_law_dice_here", "_law_degree"] (defScope s_law_form) := ⟨rfl, rfl, rfl, by decide +kernel, rfl, by decide +kernel, by decide +kernel⟩
abbrev s_law_det : Stmt := topS 76
abbrev N_law_det : List Str := ["_law_table"]
theorem sc_law_det : FnScope N_law_det ["_law_table"] (defScope s_law_det) := ⟨rfl, rfl, rfl, by decide +kernel, rfl, by decide +kernel, by decide +kernel⟩
abbrev s_law_some_prime : Stmt := topS 77
abbrev N_law_some_prime : List Str := ["_law_dice_here"]
theorem sc_law_some_prime : FnScope N_law_some_prime ["_law_dice_here"] (defScope s_law_some_prime) := ⟨rfl, rfl, rfl, by decide +kernel, rfl, by decide +kernel, by decide +kernel⟩
abbrev s_law_prime_table : Stmt := topS 78
abbrev N_law_prime_table : List Str := ["_law_dice_here", "_law_prime", "_law_most", "_law_found", "_law_row"]
theorem sc_law_prime_table : FnScope N_law_prime_table ["_law_dice_here", "_law_prime"] (defScope s_law_prime_table) := ⟨rfl, rfl, rfl, by decide +kernel, rfl, by decide +kernel, by decide +kernel⟩
abbrev s_law_right : Stmt := topS 79
abbrev N_law_right : List Str := ["_law_dice_here", "_law_prime", "_law_size", "_law_more", "_law_one", "_law_other", "_law_third", "_law_times", "_law_first", "_law_second", "_law_told", "_law_sign", "_law_table", "_law_factor", "_law_both"]
theorem sc_law_right : FnScope N_law_right ["_law_dice_here"] (defScope s_law_right) := ⟨rfl, rfl, rfl, by decide +kernel, rfl, by decide +kernel, by decide +kernel⟩
abbrev s_law : Stmt := topS 80
abbrev N_law : List Str := ["_law_script", "_law_spot", "_law_dice_here", "_law_cubic", "_law_hesse", "_law_great"]
theorem sc_law : FnScope N_law ["_law_script"] (defScope s_law) := ⟨rfl, rfl, rfl, by decide +kernel, rfl, by decide +kernel, by decide +kernel⟩
abbrev s_Told_init : Stmt := inClass (topS 29) 1
abbrev N_Told_init : List Str := ["self", "row"]
theorem sc_Told_init : FnScope N_Told_init ["self", "row"] (defScope s_Told_init) := ⟨rfl, rfl, rfl, by decide +kernel, rfl, by decide +kernel, by decide +kernel⟩
abbrev s_Form_init : Stmt := inClass (topS 31) 1
abbrev N_Form_init : List Str := ["self", "entries"]
theorem sc_Form_init : FnScope N_Form_init ["self", "entries"] (defScope s_Form_init) := ⟨rfl, rfl, rfl, by decide +kernel, rfl, by decide +kernel, by decide +kernel⟩
abbrev s_Form_power : Stmt := inClass (topS 31) 3
abbrev s_Form_entries : Stmt := inClass (topS 31) 4
abbrev N_Form_entries : List Str := ["self"]
theorem sc_Form_entries : FnScope N_Form_entries ["self"] (defScope s_Form_entries) := ⟨rfl, rfl, rfl, by decide +kernel, rfl, by decide +kernel, by decide +kernel⟩
abbrev s_Form_degree : Stmt := inClass (topS 31) 5
abbrev N_Form_degree : List Str := ["self"]
theorem sc_Form_degree : FnScope N_Form_degree ["self"] (defScope s_Form_degree) := ⟨rfl, rfl, rfl, by decide +kernel, rfl, by decide +kernel, by decide +kernel⟩
abbrev s_Form_is_zero : Stmt := inClass (topS 31) 6
abbrev s_Form_value : Stmt := inClass (topS 31) 9
abbrev s_Form_changed : Stmt := inClass (topS 31) 10
abbrev s_Form_add : Stmt := inClass (topS 31) 14
abbrev s_Form_sub : Stmt := inClass (topS 31) 15
abbrev s_Form_neg : Stmt := inClass (topS 31) 16
abbrev s_Form_mul : Stmt := inClass (topS 31) 17
abbrev s_Form_eq : Stmt := inClass (topS 31) 18
abbrev s_Form_len : Stmt := inClass (topS 31) 19
abbrev s_Form_iter : Stmt := inClass (topS 31) 20
abbrev s_PrimeForm_init : Stmt := inClass (topS 50) 1
abbrev N_PrimeForm_init : List Str := ["self", "prime", "entries", "entry"]
theorem sc_PrimeForm_init : FnScope N_PrimeForm_init ["self", "prime", "entries"] (defScope s_PrimeForm_init) := ⟨rfl, rfl, rfl, by decide +kernel, rfl, by decide +kernel, by decide +kernel⟩
abbrev s_PrimeForm_of_form : Stmt := inClass (topS 50) 2
abbrev N_PrimeForm_of_form : List Str := ["cls", "form", "prime"]
theorem sc_PrimeForm_of_form : FnScope N_PrimeForm_of_form ["cls", "form", "prime"] (defScope s_PrimeForm_of_form) := ⟨rfl, rfl, rfl, by decide +kernel, rfl, by decide +kernel, by decide +kernel⟩
abbrev s_PrimeForm_entries : Stmt := inClass (topS 50) 4
abbrev N_PrimeForm_entries : List Str := ["self"]
theorem sc_PrimeForm_entries : FnScope N_PrimeForm_entries ["self"] (defScope s_PrimeForm_entries) := ⟨rfl, rfl, rfl, by decide +kernel, rfl, by decide +kernel, by decide +kernel⟩
abbrev s_PrimeForm_degree : Stmt := inClass (topS 50) 5
abbrev N_PrimeForm_degree : List Str := ["self"]
theorem sc_PrimeForm_degree : FnScope N_PrimeForm_degree ["self"] (defScope s_PrimeForm_degree) := ⟨rfl, rfl, rfl, by decide +kernel, rfl, by decide +kernel, by decide +kernel⟩
abbrev s_PrimeForm_is_zero : Stmt := inClass (topS 50) 6
abbrev N_PrimeForm_is_zero : List Str := ["self"]
theorem sc_PrimeForm_is_zero : FnScope N_PrimeForm_is_zero ["self"] (defScope s_PrimeForm_is_zero) := ⟨rfl, rfl, rfl, by decide +kernel, rfl, by decide +kernel, by decide +kernel⟩
abbrev s_PrimeForm_changed : Stmt := inClass (topS 50) 9
abbrev N_PrimeForm_changed : List Str := ["self", "table"]
theorem sc_PrimeForm_changed : FnScope N_PrimeForm_changed ["self", "table"] (defScope s_PrimeForm_changed) := ⟨rfl, rfl, rfl, by decide +kernel, rfl, by decide +kernel, by decide +kernel⟩
abbrev s_PrimeForm_laid : Stmt := inClass (topS 50) 10
abbrev N_PrimeForm_laid : List Str := ["self", "other", "times"]
theorem sc_PrimeForm_laid : FnScope N_PrimeForm_laid ["self", "other", "times"] (defScope s_PrimeForm_laid) := ⟨rfl, rfl, rfl, by decide +kernel, rfl, by decide +kernel, by decide +kernel⟩
abbrev s_PrimeForm_mul : Stmt := inClass (topS 50) 14
abbrev N_PrimeForm_mul : List Str := ["self", "other"]
theorem sc_PrimeForm_mul : FnScope N_PrimeForm_mul ["self", "other"] (defScope s_PrimeForm_mul) := ⟨rfl, rfl, rfl, by decide +kernel, rfl, by decide +kernel, by decide +kernel⟩
abbrev s_PrimeForm_eq : Stmt := inClass (topS 50) 15
abbrev N_PrimeForm_eq : List Str := ["self", "other"]
theorem sc_PrimeForm_eq : FnScope N_PrimeForm_eq ["self", "other"] (defScope s_PrimeForm_eq) := ⟨rfl, rfl, rfl, by decide +kernel, rfl, by decide +kernel, by decide +kernel⟩
/-- where the defs stand, what the names of the module are -/
structure Facts (K : PySem.W.Frag) (mg : Str → Option Value) where
  f_is_whole : Addr
  fd_is_whole : FuncData
  F_is_whole : FnP K "is_whole" s_is_whole f_is_whole fd_is_whole
  g_is_whole : mg "is_whole" = some (.ref f_is_whole)
  b_is_whole : Binds K fd_is_whole ["value"] []
  f_is_short : Addr
  fd_is_short : FuncData
  F_is_short : FnP K "is_short" s_is_short f_is_short fd_is_short
  g_is_short : mg "is_short" = some (.ref f_is_short)
  b_is_short : Binds K fd_is_short ["value"] []
  f_is_from : Addr
  fd_is_from : FuncData
  F_is_from : FnP K "is_from" s_is_from f_is_from fd_is_from
  g_is_from : mg "is_from" = some (.ref f_is_from)
  b_is_from : Binds K fd_is_from ["value", "least", "most"] []
  f_are_short : Addr
  fd_are_short : FuncData
  F_are_short : FnP K "are_short" s_are_short f_are_short fd_are_short
  g_are_short : mg "are_short" = some (.ref f_are_short)
  b_are_short : Binds K fd_are_short ["value"] []
  f_require_short : Addr
  fd_require_short : FuncData
  F_require_short : FnP K "require_short" s_require_short f_require_short fd_require_short
  g_require_short : mg "require_short" = some (.ref f_require_short)
  b_require_short : Binds K fd_require_short ["value"] []
  f_require_from : Addr
  fd_require_from : FuncData
  F_require_from : FnP K "require_from" s_require_from f_require_from fd_require_from
  g_require_from : mg "require_from" = some (.ref f_require_from)
  b_require_from : Binds K fd_require_from ["value", "least", "most"] []
  f_lots_of : Addr
  fd_lots_of : FuncData
  F_lots_of : FnP K "lots_of" s_lots_of f_lots_of fd_lots_of
  g_lots_of : mg "lots_of" = some (.ref f_lots_of)
  b_lots_of : Binds K fd_lots_of ["many", "few"] []
  f_is_change : Addr
  fd_is_change : FuncData
  F_is_change : FnP K "is_change" s_is_change f_is_change fd_is_change
  g_is_change : mg "is_change" = some (.ref f_is_change)
  b_is_change : Binds K fd_is_change ["value"] []
  f_require_change : Addr
  fd_require_change : FuncData
  F_require_change : FnP K "require_change" s_require_change f_require_change fd_require_change
  g_require_change : mg "require_change" = some (.ref f_require_change)
  b_require_change : Binds K fd_require_change ["value"] []
  f_product_in : Addr
  fd_product_in : FuncData
  F_product_in : FnP K "product_in" s_product_in f_product_in fd_product_in
  g_product_in : mg "product_in" = some (.ref f_product_in)
  b_product_in : Binds K fd_product_in ["one", "other"] []
  f_joined_entries : Addr
  fd_joined_entries : FuncData
  F_joined_entries : FnP K "joined_entries" s_joined_entries f_joined_entries fd_joined_entries
  g_joined_entries : mg "joined_entries" = some (.ref f_joined_entries)
  b_joined_entries : Binds K fd_joined_entries ["one", "other"] []
  f_power_in : Addr
  fd_power_in : FuncData
  F_power_in : FnP K "power_in" s_power_in f_power_in fd_power_in
  g_power_in : mg "power_in" = some (.ref f_power_in)
  b_power_in : Binds K fd_power_in ["pair", "degree"] []
  f_value_in : Addr
  fd_value_in : FuncData
  F_value_in : FnP K "value_in" s_value_in f_value_in fd_value_in
  g_value_in : mg "value_in" = some (.ref f_value_in)
  b_value_in : Binds K fd_value_in ["entries", "x", "y"] []
  f_changed_in : Addr
  fd_changed_in : FuncData
  F_changed_in : FnP K "changed_in" s_changed_in f_changed_in fd_changed_in
  g_changed_in : mg "changed_in" = some (.ref f_changed_in)
  b_changed_in : Binds K fd_changed_in ["entries", "table"] []
  f_is_zero_in : Addr
  fd_is_zero_in : FuncData
  F_is_zero_in : FnP K "is_zero_in" s_is_zero_in f_is_zero_in fd_is_zero_in
  g_is_zero_in : mg "is_zero_in" = some (.ref f_is_zero_in)
  b_is_zero_in : Binds K fd_is_zero_in ["entries"] []
  f_are_entries : Addr
  fd_are_entries : FuncData
  F_are_entries : FnP K "are_entries" s_are_entries f_are_entries fd_are_entries
  g_are_entries : mg "are_entries" = some (.ref f_are_entries)
  b_are_entries : Binds K fd_are_entries ["value"] []
  f_form_of : Addr
  fd_form_of : FuncData
  F_form_of : FnP K "form_of" s_form_of f_form_of fd_form_of
  g_form_of : mg "form_of" = some (.ref f_form_of)
  b_form_of : Binds K fd_form_of ["entries"] []
  f_require_form : Addr
  fd_require_form : FuncData
  F_require_form : FnP K "require_form" s_require_form f_require_form fd_require_form
  g_require_form : mg "require_form" = some (.ref f_require_form)
  b_require_form : Binds K fd_require_form ["value"] []
  f_sum_in : Addr
  fd_sum_in : FuncData
  F_sum_in : FnP K "sum_in" s_sum_in f_sum_in fd_sum_in
  g_sum_in : mg "sum_in" = some (.ref f_sum_in)
  b_sum_in : Binds K fd_sum_in ["one", "other", "sign"] []
  f_laying_slope : Addr
  fd_laying_slope : FuncData
  F_laying_slope : FnP K "laying_slope" s_laying_slope f_laying_slope fd_laying_slope
  g_laying_slope : mg "laying_slope" = some (.ref f_laying_slope)
  b_laying_slope : Binds K fd_laying_slope ["entries", "by_y"] []
  f_laying_slopes : Addr
  fd_laying_slopes : FuncData
  F_laying_slopes : FnP K "laying_slopes" s_laying_slopes f_laying_slopes fd_laying_slopes
  g_laying_slopes : mg "laying_slopes" = some (.ref f_laying_slopes)
  b_laying_slopes : Binds K fd_laying_slopes ["entries", "times"] []
  f_add_product : Addr
  fd_add_product : FuncData
  F_add_product : FnP K "add_product" s_add_product f_add_product fd_add_product
  g_add_product : mg "add_product" = some (.ref f_add_product)
  b_add_product : Binds K fd_add_product ["found", "one", "other", "factor"] []
  f_laid_in : Addr
  fd_laid_in : FuncData
  F_laid_in : FnP K "laid_in" s_laid_in f_laid_in fd_laid_in
  g_laid_in : mg "laid_in" = some (.ref f_laid_in)
  b_laid_in : Binds K fd_laid_in ["one", "other", "times"] []
  f_laid : Addr
  fd_laid : FuncData
  F_laid : FnP K "laid" s_laid f_laid fd_laid
  g_laid : mg "laid" = some (.ref f_laid)
  b_laid : Binds K fd_laid ["one", "other", "times"] []
  f_require_prime : Addr
  fd_require_prime : FuncData
  F_require_prime : FnP K "require_prime" s_require_prime f_require_prime fd_require_prime
  g_require_prime : mg "require_prime" = some (.ref f_require_prime)
  b_require_prime : Binds K fd_require_prime ["value"] []
  f_modulo : Addr
  fd_modulo : FuncData
  F_modulo : FnP K "modulo" s_modulo f_modulo fd_modulo
  g_modulo : mg "modulo" = some (.ref f_modulo)
  b_modulo : Binds K fd_modulo ["prime", "numbers"] []
  f_determinant_in : Addr
  fd_determinant_in : FuncData
  F_determinant_in : FnP K "determinant_in" s_determinant_in f_determinant_in fd_determinant_in
  g_determinant_in : mg "determinant_in" = some (.ref f_determinant_in)
  b_determinant_in : Binds K fd_determinant_in ["table"] []
  f_is_prime_table : Addr
  fd_is_prime_table : FuncData
  F_is_prime_table : FnP K "is_prime_table" s_is_prime_table f_is_prime_table fd_is_prime_table
  g_is_prime_table : mg "is_prime_table" = some (.ref f_is_prime_table)
  b_is_prime_table : Binds K fd_is_prime_table ["prime", "value"] []
  f_require_prime_table : Addr
  fd_require_prime_table : FuncData
  F_require_prime_table : FnP K "require_prime_table" s_require_prime_table f_require_prime_table fd_require_prime_table
  g_require_prime_table : mg "require_prime_table" = some (.ref f_require_prime_table)
  b_require_prime_table : Binds K fd_require_prime_table ["prime", "value"] []
  f_changed_modulo : Addr
  fd_changed_modulo : FuncData
  F_changed_modulo : FnP K "changed_modulo" s_changed_modulo f_changed_modulo fd_changed_modulo
  g_changed_modulo : mg "changed_modulo" = some (.ref f_changed_modulo)
  b_changed_modulo : Binds K fd_changed_modulo ["form", "table"] []
  f_law_dice : Addr
  fd_law_dice : FuncData
  F_law_dice : FnP K "_law_dice" s_law_dice f_law_dice fd_law_dice
  g_law_dice : mg "_law_dice" = some (.ref f_law_dice)
  b_law_dice : Binds K fd_law_dice ["_law_script", "_law_spot"] []
  f_law_roll : Addr
  fd_law_roll : FuncData
  F_law_roll : FnP K "_law_roll" s_law_roll f_law_roll fd_law_roll
  g_law_roll : mg "_law_roll" = some (.ref f_law_roll)
  b_law_roll : Binds K fd_law_roll ["_law_dice_here", "_law_total"] []
  f_law_pick : Addr
  fd_law_pick : FuncData
  F_law_pick : FnP K "_law_pick" s_law_pick f_law_pick fd_law_pick
  g_law_pick : mg "_law_pick" = some (.ref f_law_pick)
  b_law_pick : Binds K fd_law_pick ["_law_dice_here", "_law_items"] []
  f_law_near : Addr
  fd_law_near : FuncData
  F_law_near : FnP K "_law_near" s_law_near f_law_near fd_law_near
  g_law_near : mg "_law_near" = some (.ref f_law_near)
  b_law_near : Binds K fd_law_near ["_law_dice_here", "_law_most"] []
  f_law_gcd : Addr
  fd_law_gcd : FuncData
  F_law_gcd : FnP K "_law_gcd" s_law_gcd f_law_gcd fd_law_gcd
  g_law_gcd : mg "_law_gcd" = some (.ref f_law_gcd)
  b_law_gcd : Binds K fd_law_gcd ["_law_one", "_law_other"] []
  f_law_shared : Addr
  fd_law_shared : FuncData
  F_law_shared : FnP K "_law_shared" s_law_shared f_law_shared fd_law_shared
  g_law_shared : mg "_law_shared" = some (.ref f_law_shared)
  b_law_shared : Binds K fd_law_shared ["_law_numbers"] []
  f_law_raised : Addr
  fd_law_raised : FuncData
  F_law_raised : FnP K "_law_raised" s_law_raised f_law_raised fd_law_raised
  g_law_raised : mg "_law_raised" = some (.ref f_law_raised)
  b_law_raised : Binds K fd_law_raised ["_law_number", "_law_times"] []
  f_law_choose : Addr
  fd_law_choose : FuncData
  F_law_choose : FnP K "_law_choose" s_law_choose f_law_choose fd_law_choose
  g_law_choose : mg "_law_choose" = some (.ref f_law_choose)
  b_law_choose : Binds K fd_law_choose ["_law_many", "_law_few"] []
  f_law_plus : Addr
  fd_law_plus : FuncData
  F_law_plus : FnP K "_law_plus" s_law_plus f_law_plus fd_law_plus
  g_law_plus : mg "_law_plus" = some (.ref f_law_plus)
  b_law_plus : Binds K fd_law_plus ["_law_one", "_law_other"] []
  f_law_scaled : Addr
  fd_law_scaled : FuncData
  F_law_scaled : FnP K "_law_scaled" s_law_scaled f_law_scaled fd_law_scaled
  g_law_scaled : mg "_law_scaled" = some (.ref f_law_scaled)
  b_law_scaled : Binds K fd_law_scaled ["_law_form_here", "_law_factor"] []
  f_law_product : Addr
  fd_law_product : FuncData
  F_law_product : FnP K "_law_product" s_law_product f_law_product fd_law_product
  g_law_product : mg "_law_product" = some (.ref f_law_product)
  b_law_product : Binds K fd_law_product ["_law_one", "_law_other"] []
  f_law_all_product : Addr
  fd_law_all_product : FuncData
  F_law_all_product : FnP K "_law_all_product" s_law_all_product f_law_all_product fd_law_all_product
  g_law_all_product : mg "_law_all_product" = some (.ref f_law_all_product)
  b_law_all_product : Binds K fd_law_all_product ["_law_forms"] []
  f_law_power : Addr
  fd_law_power : FuncData
  F_law_power : FnP K "_law_power" s_law_power f_law_power fd_law_power
  g_law_power : mg "_law_power" = some (.ref f_law_power)
  b_law_power : Binds K fd_law_power ["_law_pair", "_law_times"] []
  f_law_by_x : Addr
  fd_law_by_x : FuncData
  F_law_by_x : FnP K "_law_by_x" s_law_by_x f_law_by_x fd_law_by_x
  g_law_by_x : mg "_law_by_x" = some (.ref f_law_by_x)
  b_law_by_x : Binds K fd_law_by_x ["_law_form_here"] []
  f_law_by_y : Addr
  fd_law_by_y : FuncData
  F_law_by_y : FnP K "_law_by_y" s_law_by_y f_law_by_y fd_law_by_y
  g_law_by_y : mg "_law_by_y" = some (.ref f_law_by_y)
  b_law_by_y : Binds K fd_law_by_y ["_law_form_here"] []
  f_law_derived : Addr
  fd_law_derived : FuncData
  F_law_derived : FnP K "_law_derived" s_law_derived f_law_derived fd_law_derived
  g_law_derived : mg "_law_derived" = some (.ref f_law_derived)
  b_law_derived : Binds K fd_law_derived ["_law_form_here", "_law_one", "_law_other"] []
  f_law_laid : Addr
  fd_law_laid : FuncData
  F_law_laid : FnP K "_law_laid" s_law_laid f_law_laid fd_law_laid
  g_law_laid : mg "_law_laid" = some (.ref f_law_laid)
  b_law_laid : Binds K fd_law_laid ["_law_one", "_law_other", "_law_times"] []
  f_law_plain : Addr
  fd_law_plain : FuncData
  F_law_plain : FnP K "_law_plain" s_law_plain f_law_plain fd_law_plain
  g_law_plain : mg "_law_plain" = some (.ref f_law_plain)
  b_law_plain : Binds K fd_law_plain ["_law_form_here"] []
  f_law_line : Addr
  fd_law_line : FuncData
  F_law_line : FnP K "_law_line" s_law_line f_law_line fd_law_line
  g_law_line : mg "_law_line" = some (.ref f_law_line)
  b_law_line : Binds K fd_law_line ["_law_point_here"] []
  f_law_point : Addr
  fd_law_point : FuncData
  F_law_point : FnP K "_law_point" s_law_point f_law_point fd_law_point
  g_law_point : mg "_law_point" = some (.ref f_law_point)
  b_law_point : Binds K fd_law_point ["_law_dice_here", "_law_most"] []
  f_law_small_form : Addr
  fd_law_small_form : FuncData
  F_law_small_form : FnP K "_law_small_form" s_law_small_form f_law_small_form fd_law_small_form
  g_law_small_form : mg "_law_small_form" = some (.ref f_law_small_form)
  b_law_small_form : Binds K fd_law_small_form ["_law_dice_here", "_law_degree", "_law_most"] []
  f_law_form : Addr
  fd_law_form : FuncData
  F_law_form : FnP K "_law_form" s_law_form f_law_form fd_law_form
  g_law_form : mg "_law_form" = some (.ref f_law_form)
  b_law_form : Binds K fd_law_form ["_law_dice_here", "_law_degree"] []
  f_law_det : Addr
  fd_law_det : FuncData
  F_law_det : FnP K "_law_det" s_law_det f_law_det fd_law_det
  g_law_det : mg "_law_det" = some (.ref f_law_det)
  b_law_det : Binds K fd_law_det ["_law_table"] []
  f_law_some_prime : Addr
  fd_law_some_prime : FuncData
  F_law_some_prime : FnP K "_law_some_prime" s_law_some_prime f_law_some_prime fd_law_some_prime
  g_law_some_prime : mg "_law_some_prime" = some (.ref f_law_some_prime)
  b_law_some_prime : Binds K fd_law_some_prime ["_law_dice_here"] []
  f_law_prime_table : Addr
  fd_law_prime_table : FuncData
  F_law_prime_table : FnP K "_law_prime_table" s_law_prime_table f_law_prime_table fd_law_prime_table
  g_law_prime_table : mg "_law_prime_table" = some (.ref f_law_prime_table)
  b_law_prime_table : Binds K fd_law_prime_table ["_law_dice_here", "_law_prime"] []
  f_law_right : Addr
  fd_law_right : FuncData
  F_law_right : FnP K "_law_right" s_law_right f_law_right fd_law_right
  g_law_right : mg "_law_right" = some (.ref f_law_right)
  b_law_right : Binds K fd_law_right ["_law_dice_here"] []
  f_law : Addr
  fd_law : FuncData
  F_law : FnP K "law" s_law f_law fd_law
  g_law : mg "law" = some (.ref f_law)
  b_law : Binds K fd_law ["_law_script"] []
  f_Told_init : Addr
  fd_Told_init : FuncData
  F_Told_init : FnM K "__init__" "Told.__init__" s_Told_init f_Told_init fd_Told_init
  b_Told_init : Binds K fd_Told_init ["self", "row"] []
  f_Form_init : Addr
  fd_Form_init : FuncData
  F_Form_init : FnM K "__init__" "Form.__init__" s_Form_init f_Form_init fd_Form_init
  b_Form_init : Binds K fd_Form_init ["self", "entries"] []
  f_Form_power : Addr
  fd_Form_power : FuncData
  F_Form_power : FnM K "power" "Form.power" s_Form_power f_Form_power fd_Form_power
  b_Form_power : Binds K fd_Form_power ["cls", "pair", "degree"] []
  f_Form_entries : Addr
  fd_Form_entries : FuncData
  F_Form_entries : FnM K "entries" "Form.entries" s_Form_entries f_Form_entries fd_Form_entries
  b_Form_entries : Binds K fd_Form_entries ["self"] []
  f_Form_degree : Addr
  fd_Form_degree : FuncData
  F_Form_degree : FnM K "degree" "Form.degree" s_Form_degree f_Form_degree fd_Form_degree
  b_Form_degree : Binds K fd_Form_degree ["self"] []
  f_Form_is_zero : Addr
  fd_Form_is_zero : FuncData
  F_Form_is_zero : FnM K "is_zero" "Form.is_zero" s_Form_is_zero f_Form_is_zero fd_Form_is_zero
  b_Form_is_zero : Binds K fd_Form_is_zero ["self"] []
  f_Form_value : Addr
  fd_Form_value : FuncData
  F_Form_value : FnM K "value" "Form.value" s_Form_value f_Form_value fd_Form_value
  b_Form_value : Binds K fd_Form_value ["self", "x", "y"] []
  f_Form_changed : Addr
  fd_Form_changed : FuncData
  F_Form_changed : FnM K "changed" "Form.changed" s_Form_changed f_Form_changed fd_Form_changed
  b_Form_changed : Binds K fd_Form_changed ["self", "table"] []
  f_Form_add : Addr
  fd_Form_add : FuncData
  F_Form_add : FnM K "__add__" "Form.__add__" s_Form_add f_Form_add fd_Form_add
  b_Form_add : Binds K fd_Form_add ["self", "other"] []
  f_Form_sub : Addr
  fd_Form_sub : FuncData
  F_Form_sub : FnM K "__sub__" "Form.__sub__" s_Form_sub f_Form_sub fd_Form_sub
  b_Form_sub : Binds K fd_Form_sub ["self", "other"] []
  f_Form_neg : Addr
  fd_Form_neg : FuncData
  F_Form_neg : FnM K "__neg__" "Form.__neg__" s_Form_neg f_Form_neg fd_Form_neg
  b_Form_neg : Binds K fd_Form_neg ["self"] []
  f_Form_mul : Addr
  fd_Form_mul : FuncData
  F_Form_mul : FnM K "__mul__" "Form.__mul__" s_Form_mul f_Form_mul fd_Form_mul
  b_Form_mul : Binds K fd_Form_mul ["self", "other"] []
  f_Form_eq : Addr
  fd_Form_eq : FuncData
  F_Form_eq : FnM K "__eq__" "Form.__eq__" s_Form_eq f_Form_eq fd_Form_eq
  b_Form_eq : Binds K fd_Form_eq ["self", "other"] []
  f_Form_len : Addr
  fd_Form_len : FuncData
  F_Form_len : FnM K "__len__" "Form.__len__" s_Form_len f_Form_len fd_Form_len
  b_Form_len : Binds K fd_Form_len ["self"] []
  f_Form_iter : Addr
  fd_Form_iter : FuncData
  F_Form_iter : FnM K "__iter__" "Form.__iter__" s_Form_iter f_Form_iter fd_Form_iter
  b_Form_iter : Binds K fd_Form_iter ["self"] []
  f_PrimeForm_init : Addr
  fd_PrimeForm_init : FuncData
  F_PrimeForm_init : FnM K "__init__" "PrimeForm.__init__" s_PrimeForm_init f_PrimeForm_init fd_PrimeForm_init
  b_PrimeForm_init : Binds K fd_PrimeForm_init ["self", "prime", "entries"] []
  f_PrimeForm_of_form : Addr
  fd_PrimeForm_of_form : FuncData
  F_PrimeForm_of_form : FnM K "of_form" "PrimeForm.of_form" s_PrimeForm_of_form f_PrimeForm_of_form fd_PrimeForm_of_form
  b_PrimeForm_of_form : Binds K fd_PrimeForm_of_form ["cls", "form", "prime"] []
  f_PrimeForm_entries : Addr
  fd_PrimeForm_entries : FuncData
  F_PrimeForm_entries : FnM K "entries" "PrimeForm.entries" s_PrimeForm_entries f_PrimeForm_entries fd_PrimeForm_entries
  b_PrimeForm_entries : Binds K fd_PrimeForm_entries ["self"] []
  f_PrimeForm_degree : Addr
  fd_PrimeForm_degree : FuncData
  F_PrimeForm_degree : FnM K "degree" "PrimeForm.degree" s_PrimeForm_degree f_PrimeForm_degree fd_PrimeForm_degree
  b_PrimeForm_degree : Binds K fd_PrimeForm_degree ["self"] []
  f_PrimeForm_is_zero : Addr
  fd_PrimeForm_is_zero : FuncData
  F_PrimeForm_is_zero : FnM K "is_zero" "PrimeForm.is_zero" s_PrimeForm_is_zero f_PrimeForm_is_zero fd_PrimeForm_is_zero
  b_PrimeForm_is_zero : Binds K fd_PrimeForm_is_zero ["self"] []
  f_PrimeForm_changed : Addr
  fd_PrimeForm_changed : FuncData
  F_PrimeForm_changed : FnM K "changed" "PrimeForm.changed" s_PrimeForm_changed f_PrimeForm_changed fd_PrimeForm_changed
  b_PrimeForm_changed : Binds K fd_PrimeForm_changed ["self", "table"] []
  f_PrimeForm_laid : Addr
  fd_PrimeForm_laid : FuncData
  F_PrimeForm_laid : FnM K "laid" "PrimeForm.laid" s_PrimeForm_laid f_PrimeForm_laid fd_PrimeForm_laid
  b_PrimeForm_laid : Binds K fd_PrimeForm_laid ["self", "other", "times"] []
  f_PrimeForm_mul : Addr
  fd_PrimeForm_mul : FuncData
  F_PrimeForm_mul : FnM K "__mul__" "PrimeForm.__mul__" s_PrimeForm_mul f_PrimeForm_mul fd_PrimeForm_mul
  b_PrimeForm_mul : Binds K fd_PrimeForm_mul ["self", "other"] []
  f_PrimeForm_eq : Addr
  fd_PrimeForm_eq : FuncData
  F_PrimeForm_eq : FnM K "__eq__" "PrimeForm.__eq__" s_PrimeForm_eq f_PrimeForm_eq fd_PrimeForm_eq
  b_PrimeForm_eq : Binds K fd_PrimeForm_eq ["self", "other"] []
  C_Told : Addr
  g_Told : mg "Told" = some (.ref C_Told)
  oc_Told : OwnF.OC K C_Told
  mk_Told : Mk K C_Told f_Told_init
  a_own_row : Addr
  sl_own_row : SlX.Slot1 K C_Told "own_row" a_own_row 0
  C_Form : Addr
  g_Form : mg "Form" = some (.ref C_Form)
  oc_Form : OwnF.OC K C_Form
  mk_Form : Mk K C_Form f_Form_init
  a_own_entries : Addr
  sl_own_entries : SlX.Slot1 K C_Form "own_entries" a_own_entries 0
  C_PrimeForm : Addr
  g_PrimeForm : mg "PrimeForm" = some (.ref C_PrimeForm)
  oc_PrimeForm : OwnF.OC K C_PrimeForm
  mk_PrimeForm : Mk K C_PrimeForm f_PrimeForm_init
  a_PrimeForm_own_entries : Addr
  sl_PrimeForm_own_entries : SlX.Slot1 K C_PrimeForm "own_entries" a_PrimeForm_own_entries 0
  a_own_prime : Addr
  sl_own_prime : SlX.Slot1 K C_PrimeForm "own_prime" a_own_prime 1
  mt_Told_init : HookG.Mt K C_Told "__init__" f_Told_init
  mt_Form_init : HookG.Mt K C_Form "__init__" f_Form_init
  p_Form_power : Addr
  cm_Form_power : OwnC.Cm K C_Form "power" p_Form_power f_Form_power
  p_Form_entries : Addr
  pr_Form_entries : HookG.Pr K C_Form "entries" p_Form_entries f_Form_entries
  p_Form_degree : Addr
  pr_Form_degree : HookG.Pr K C_Form "degree" p_Form_degree f_Form_degree
  p_Form_is_zero : Addr
  pr_Form_is_zero : HookG.Pr K C_Form "is_zero" p_Form_is_zero f_Form_is_zero
  mt_Form_value : HookG.Mt K C_Form "value" f_Form_value
  mt_Form_changed : HookG.Mt K C_Form "changed" f_Form_changed
  mt_Form_add : HookG.Mt K C_Form "__add__" f_Form_add
  mt_Form_sub : HookG.Mt K C_Form "__sub__" f_Form_sub
  mt_Form_neg : HookG.Mt K C_Form "__neg__" f_Form_neg
  mt_Form_mul : HookG.Mt K C_Form "__mul__" f_Form_mul
  mt_Form_eq : HookG.Mt K C_Form "__eq__" f_Form_eq
  mt_Form_len : HookG.Mt K C_Form "__len__" f_Form_len
  mt_Form_iter : HookG.Mt K C_Form "__iter__" f_Form_iter
  mt_PrimeForm_init : HookG.Mt K C_PrimeForm "__init__" f_PrimeForm_init
  p_PrimeForm_of_form : Addr
  cm_PrimeForm_of_form : OwnC.Cm K C_PrimeForm "of_form" p_PrimeForm_of_form f_PrimeForm_of_form
  p_PrimeForm_entries : Addr
  pr_PrimeForm_entries : HookG.Pr K C_PrimeForm "entries" p_PrimeForm_entries f_PrimeForm_entries
  p_PrimeForm_degree : Addr
  pr_PrimeForm_degree : HookG.Pr K C_PrimeForm "degree" p_PrimeForm_degree f_PrimeForm_degree
  p_PrimeForm_is_zero : Addr
  pr_PrimeForm_is_zero : HookG.Pr K C_PrimeForm "is_zero" p_PrimeForm_is_zero f_PrimeForm_is_zero
  mt_PrimeForm_changed : HookG.Mt K C_PrimeForm "changed" f_PrimeForm_changed
  mt_PrimeForm_laid : HookG.Mt K C_PrimeForm "laid" f_PrimeForm_laid
  mt_PrimeForm_mul : HookG.Mt K C_PrimeForm "__mul__" f_PrimeForm_mul
  mt_PrimeForm_eq : HookG.Mt K C_PrimeForm "__eq__" f_PrimeForm_eq
  kit_Told_Form : PySem.W.kitOne K (.ref C_Told) (.ref C_Form) = some false
  kit_Told_PrimeForm : PySem.W.kitOne K (.ref C_Told) (.ref C_PrimeForm) = some false
  kit_Form_Told : PySem.W.kitOne K (.ref C_Form) (.ref C_Told) = some false
  kit_Form_PrimeForm : PySem.W.kitOne K (.ref C_Form) (.ref C_PrimeForm) = some false
  kit_PrimeForm_Told : PySem.W.kitOne K (.ref C_PrimeForm) (.ref C_Told) = some false
  kit_PrimeForm_Form : PySem.W.kitOne K (.ref C_PrimeForm) (.ref C_Form) = some false
  z_abs : mg "abs" = none
  z_all : mg "all" = none
  z_any : mg "any" = none
  z_bool : mg "bool" = none
  z_enumerate : mg "enumerate" = none
  z_int : mg "int" = none
  z_isinstance : mg "isinstance" = none
  z_iter : mg "iter" = none
  z_len : mg "len" = none
  z_list : mg "list" = none
  z_max : mg "max" = none
  z_min : mg "min" = none
  z_range : mg "range" = none
  z_tuple : mg "tuple" = none
  z_zip : mg "zip" = none
  c_GREATEST : ∃ t, mg "GREATEST" = some (.int 1000000000000000000000000000000000000000000000000000000000000 t)
  c_MAX_DEGREE : ∃ t, mg "MAX_DEGREE" = some (.int 40 t)
  c_MOST_LAID : ∃ t, mg "MOST_LAID" = some (.int 40 t)
  c_MOST_DEGREE : ∃ t, mg "MOST_DEGREE" = some (.int 12 t)
  A_PRIMES : Addr
  t_PRIMES : StatT.Tp K mg "PRIMES" [13, 17, 19, 23, 29, 31, 37, 41, 43, 47, 53, 59, 61, 67, 71, 73, 79, 83, 89, 97, 101] A_PRIMES
/-! ### for the head -/
def d_is_whole : HookG.GD := ⟨.glo "is_whole", "is_whole", "is_whole", defArgs s_is_whole, defBody s_is_whole, defScope s_is_whole⟩
def d_is_short : HookG.GD := ⟨.glo "is_short", "is_short", "is_short", defArgs s_is_short, defBody s_is_short, defScope s_is_short⟩
def d_is_from : HookG.GD := ⟨.glo "is_from", "is_from", "is_from", defArgs s_is_from, defBody s_is_from, defScope s_is_from⟩
def d_are_short : HookG.GD := ⟨.glo "are_short", "are_short", "are_short", defArgs s_are_short, defBody s_are_short, defScope s_are_short⟩
def d_require_short : HookG.GD := ⟨.glo "require_short", "require_short", "require_short", defArgs s_require_short, defBody s_require_short, defScope s_require_short⟩
def d_require_from : HookG.GD := ⟨.glo "require_from", "require_from", "require_from", defArgs s_require_from, defBody s_require_from, defScope s_require_from⟩
def d_lots_of : HookG.GD := ⟨.glo "lots_of", "lots_of", "lots_of", defArgs s_lots_of, defBody s_lots_of, defScope s_lots_of⟩
def d_is_change : HookG.GD := ⟨.glo "is_change", "is_change", "is_change", defArgs s_is_change, defBody s_is_change, defScope s_is_change⟩
def d_require_change : HookG.GD := ⟨.glo "require_change", "require_change", "require_change", defArgs s_require_change, defBody s_require_change, defScope s_require_change⟩
def d_product_in : HookG.GD := ⟨.glo "product_in", "product_in", "product_in", defArgs s_product_in, defBody s_product_in, defScope s_product_in⟩
def d_joined_entries : HookG.GD := ⟨.glo "joined_entries", "joined_entries", "joined_entries", defArgs s_joined_entries, defBody s_joined_entries, defScope s_joined_entries⟩
def d_power_in : HookG.GD := ⟨.glo "power_in", "power_in", "power_in", defArgs s_power_in, defBody s_power_in, defScope s_power_in⟩
def d_value_in : HookG.GD := ⟨.glo "value_in", "value_in", "value_in", defArgs s_value_in, defBody s_value_in, defScope s_value_in⟩
def d_changed_in : HookG.GD := ⟨.glo "changed_in", "changed_in", "changed_in", defArgs s_changed_in, defBody s_changed_in, defScope s_changed_in⟩
def d_is_zero_in : HookG.GD := ⟨.glo "is_zero_in", "is_zero_in", "is_zero_in", defArgs s_is_zero_in, defBody s_is_zero_in, defScope s_is_zero_in⟩
def d_are_entries : HookG.GD := ⟨.glo "are_entries", "are_entries", "are_entries", defArgs s_are_entries, defBody s_are_entries, defScope s_are_entries⟩
def d_form_of : HookG.GD := ⟨.glo "form_of", "form_of", "form_of", defArgs s_form_of, defBody s_form_of, defScope s_form_of⟩
def d_require_form : HookG.GD := ⟨.glo "require_form", "require_form", "require_form", defArgs s_require_form, defBody s_require_form, defScope s_require_form⟩
def d_sum_in : HookG.GD := ⟨.glo "sum_in", "sum_in", "sum_in", defArgs s_sum_in, defBody s_sum_in, defScope s_sum_in⟩
def d_laying_slope : HookG.GD := ⟨.glo "laying_slope", "laying_slope", "laying_slope", defArgs s_laying_slope, defBody s_laying_slope, defScope s_laying_slope⟩
def d_laying_slopes : HookG.GD := ⟨.glo "laying_slopes", "laying_slopes", "laying_slopes", defArgs s_laying_slopes, defBody s_laying_slopes, defScope s_laying_slopes⟩
def d_add_product : HookG.GD := ⟨.glo "add_product", "add_product", "add_product", defArgs s_add_product, defBody s_add_product, defScope s_add_product⟩
def d_laid_in : HookG.GD := ⟨.glo "laid_in", "laid_in", "laid_in", defArgs s_laid_in, defBody s_laid_in, defScope s_laid_in⟩
def d_laid : HookG.GD := ⟨.glo "laid", "laid", "laid", defArgs s_laid, defBody s_laid, defScope s_laid⟩
def d_require_prime : HookG.GD := ⟨.glo "require_prime", "require_prime", "require_prime", defArgs s_require_prime, defBody s_require_prime, defScope s_require_prime⟩
def d_modulo : HookG.GD := ⟨.glo "modulo", "modulo", "modulo", defArgs s_modulo, defBody s_modulo, defScope s_modulo⟩
def d_determinant_in : HookG.GD := ⟨.glo "determinant_in", "determinant_in", "determinant_in", defArgs s_determinant_in, defBody s_determinant_in, defScope s_determinant_in⟩
def d_is_prime_table : HookG.GD := ⟨.glo "is_prime_table", "is_prime_table", "is_prime_table", defArgs s_is_prime_table, defBody s_is_prime_table, defScope s_is_prime_table⟩
def d_require_prime_table : HookG.GD := ⟨.glo "require_prime_table", "require_prime_table", "require_prime_table", defArgs s_require_prime_table, defBody s_require_prime_table, defScope s_require_prime_table⟩
def d_changed_modulo : HookG.GD := ⟨.glo "changed_modulo", "changed_modulo", "changed_modulo", defArgs s_changed_modulo, defBody s_changed_modulo, defScope s_changed_modulo⟩
def d_law_dice : HookG.GD := ⟨.glo "_law_dice", "_law_dice", "_law_dice", defArgs s_law_dice, defBody s_law_dice, defScope s_law_dice⟩
def d_law_roll : HookG.GD := ⟨.glo "_law_roll", "_law_roll", "_law_roll", defArgs s_law_roll, defBody s_law_roll, defScope s_law_roll⟩
def d_law_pick : HookG.GD := ⟨.glo "_law_pick", "_law_pick", "_law_pick", defArgs s_law_pick, defBody s_law_pick, defScope s_law_pick⟩
def d_law_near : HookG.GD := ⟨.glo "_law_near", "_law_near", "_law_near", defArgs s_law_near, defBody s_law_near, defScope s_law_near⟩
def d_law_gcd : HookG.GD := ⟨.glo "_law_gcd", "_law_gcd", "_law_gcd", defArgs s_law_gcd, defBody s_law_gcd, defScope s_law_gcd⟩
def d_law_shared : HookG.GD := ⟨.glo "_law_shared", "_law_shared", "_law_shared", defArgs s_law_shared, defBody s_law_shared, defScope s_law_shared⟩
def d_law_raised : HookG.GD := ⟨.glo "_law_raised", "_law_raised", "_law_raised", defArgs s_law_raised, defBody s_law_raised, defScope s_law_raised⟩
def d_law_choose : HookG.GD := ⟨.glo "_law_choose", "_law_choose", "_law_choose", defArgs s_law_choose, defBody s_law_choose, defScope s_law_choose⟩
def d_law_plus : HookG.GD := ⟨.glo "_law_plus", "_law_plus", "_law_plus", defArgs s_law_plus, defBody s_law_plus, defScope s_law_plus⟩
def d_law_scaled : HookG.GD := ⟨.glo "_law_scaled", "_law_scaled", "_law_scaled", defArgs s_law_scaled, defBody s_law_scaled, defScope s_law_scaled⟩
def d_law_product : HookG.GD := ⟨.glo "_law_product", "_law_product", "_law_product", defArgs s_law_product, defBody s_law_product, defScope s_law_product⟩
def d_law_all_product : HookG.GD := ⟨.glo "_law_all_product", "_law_all_product", "_law_all_product", defArgs s_law_all_product, defBody s_law_all_product, defScope s_law_all_product⟩
def d_law_power : HookG.GD := ⟨.glo "_law_power", "_law_power", "_law_power", defArgs s_law_power, defBody s_law_power, defScope s_law_power⟩
def d_law_by_x : HookG.GD := ⟨.glo "_law_by_x", "_law_by_x", "_law_by_x", defArgs s_law_by_x, defBody s_law_by_x, defScope s_law_by_x⟩
def d_law_by_y : HookG.GD := ⟨.glo "_law_by_y", "_law_by_y", "_law_by_y", defArgs s_law_by_y, defBody s_law_by_y, defScope s_law_by_y⟩
def d_law_derived : HookG.GD := ⟨.glo "_law_derived", "_law_derived", "_law_derived", defArgs s_law_derived, defBody s_law_derived, defScope s_law_derived⟩
def d_law_laid : HookG.GD := ⟨.glo "_law_laid", "_law_laid", "_law_laid", defArgs s_law_laid, defBody s_law_laid, defScope s_law_laid⟩
def d_law_plain : HookG.GD := ⟨.glo "_law_plain", "_law_plain", "_law_plain", defArgs s_law_plain, defBody s_law_plain, defScope s_law_plain⟩
def d_law_line : HookG.GD := ⟨.glo "_law_line", "_law_line", "_law_line", defArgs s_law_line, defBody s_law_line, defScope s_law_line⟩
def d_law_point : HookG.GD := ⟨.glo "_law_point", "_law_point", "_law_point", defArgs s_law_point, defBody s_law_point, defScope s_law_point⟩
def d_law_small_form : HookG.GD := ⟨.glo "_law_small_form", "_law_small_form", "_law_small_form", defArgs s_law_small_form, defBody s_law_small_form, defScope s_law_small_form⟩
def d_law_form : HookG.GD := ⟨.glo "_law_form", "_law_form", "_law_form", defArgs s_law_form, defBody s_law_form, defScope s_law_form⟩
def d_law_det : HookG.GD := ⟨.glo "_law_det", "_law_det", "_law_det", defArgs s_law_det, defBody s_law_det, defScope s_law_det⟩
def d_law_some_prime : HookG.GD := ⟨.glo "_law_some_prime", "_law_some_prime", "_law_some_prime", defArgs s_law_some_prime, defBody s_law_some_prime, defScope s_law_some_prime⟩
def d_law_prime_table : HookG.GD := ⟨.glo "_law_prime_table", "_law_prime_table", "_law_prime_table", defArgs s_law_prime_table, defBody s_law_prime_table, defScope s_law_prime_table⟩
def d_law_right : HookG.GD := ⟨.glo "_law_right", "_law_right", "_law_right", defArgs s_law_right, defBody s_law_right, defScope s_law_right⟩
def d_law : HookG.GD := ⟨.glo "law", "law", "law", defArgs s_law, defBody s_law, defScope s_law⟩
def d_Told_init : HookG.GD := ⟨.met "Told" "__init__", "__init__", "Told.__init__", defArgs s_Told_init, defBody s_Told_init, defScope s_Told_init⟩
def d_Form_init : HookG.GD := ⟨.met "Form" "__init__", "__init__", "Form.__init__", defArgs s_Form_init, defBody s_Form_init, defScope s_Form_init⟩
def d_Form_power : HookG.GD := ⟨.cms "Form" "power", "power", "Form.power", defArgs s_Form_power, defBody s_Form_power, defScope s_Form_power⟩
def d_Form_entries : HookG.GD := ⟨.prp "Form" "entries", "entries", "Form.entries", defArgs s_Form_entries, defBody s_Form_entries, defScope s_Form_entries⟩
def d_Form_degree : HookG.GD := ⟨.prp "Form" "degree", "degree", "Form.degree", defArgs s_Form_degree, defBody s_Form_degree, defScope s_Form_degree⟩
def d_Form_is_zero : HookG.GD := ⟨.prp "Form" "is_zero", "is_zero", "Form.is_zero", defArgs s_Form_is_zero, defBody s_Form_is_zero, defScope s_Form_is_zero⟩
def d_Form_value : HookG.GD := ⟨.met "Form" "value", "value", "Form.value", defArgs s_Form_value, defBody s_Form_value, defScope s_Form_value⟩
def d_Form_changed : HookG.GD := ⟨.met "Form" "changed", "changed", "Form.changed", defArgs s_Form_changed, defBody s_Form_changed, defScope s_Form_changed⟩
def d_Form_add : HookG.GD := ⟨.met "Form" "__add__", "__add__", "Form.__add__", defArgs s_Form_add, defBody s_Form_add, defScope s_Form_add⟩
def d_Form_sub : HookG.GD := ⟨.met "Form" "__sub__", "__sub__", "Form.__sub__", defArgs s_Form_sub, defBody s_Form_sub, defScope s_Form_sub⟩
def d_Form_neg : HookG.GD := ⟨.met "Form" "__neg__", "__neg__", "Form.__neg__", defArgs s_Form_neg, defBody s_Form_neg, defScope s_Form_neg⟩
def d_Form_mul : HookG.GD := ⟨.met "Form" "__mul__", "__mul__", "Form.__mul__", defArgs s_Form_mul, defBody s_Form_mul, defScope s_Form_mul⟩
def d_Form_eq : HookG.GD := ⟨.met "Form" "__eq__", "__eq__", "Form.__eq__", defArgs s_Form_eq, defBody s_Form_eq, defScope s_Form_eq⟩
def d_Form_len : HookG.GD := ⟨.met "Form" "__len__", "__len__", "Form.__len__", defArgs s_Form_len, defBody s_Form_len, defScope s_Form_len⟩
def d_Form_iter : HookG.GD := ⟨.met "Form" "__iter__", "__iter__", "Form.__iter__", defArgs s_Form_iter, defBody s_Form_iter, defScope s_Form_iter⟩
def d_PrimeForm_init : HookG.GD := ⟨.met "PrimeForm" "__init__", "__init__", "PrimeForm.__init__", defArgs s_PrimeForm_init, defBody s_PrimeForm_init, defScope s_PrimeForm_init⟩
def d_PrimeForm_of_form : HookG.GD := ⟨.cms "PrimeForm" "of_form", "of_form", "PrimeForm.of_form", defArgs s_PrimeForm_of_form, defBody s_PrimeForm_of_form, defScope s_PrimeForm_of_form⟩
def d_PrimeForm_entries : HookG.GD := ⟨.prp "PrimeForm" "entries", "entries", "PrimeForm.entries", defArgs s_PrimeForm_entries, defBody s_PrimeForm_entries, defScope s_PrimeForm_entries⟩
def d_PrimeForm_degree : HookG.GD := ⟨.prp "PrimeForm" "degree", "degree", "PrimeForm.degree", defArgs s_PrimeForm_degree, defBody s_PrimeForm_degree, defScope s_PrimeForm_degree⟩
def d_PrimeForm_is_zero : HookG.GD := ⟨.prp "PrimeForm" "is_zero", "is_zero", "PrimeForm.is_zero", defArgs s_PrimeForm_is_zero, defBody s_PrimeForm_is_zero, defScope s_PrimeForm_is_zero⟩
def d_PrimeForm_changed : HookG.GD := ⟨.met "PrimeForm" "changed", "changed", "PrimeForm.changed", defArgs s_PrimeForm_changed, defBody s_PrimeForm_changed, defScope s_PrimeForm_changed⟩
def d_PrimeForm_laid : HookG.GD := ⟨.met "PrimeForm" "laid", "laid", "PrimeForm.laid", defArgs s_PrimeForm_laid, defBody s_PrimeForm_laid, defScope s_PrimeForm_laid⟩
def d_PrimeForm_mul : HookG.GD := ⟨.met "PrimeForm" "__mul__", "__mul__", "PrimeForm.__mul__", defArgs s_PrimeForm_mul, defBody s_PrimeForm_mul, defScope s_PrimeForm_mul⟩
def d_PrimeForm_eq : HookG.GD := ⟨.met "PrimeForm" "__eq__", "__eq__", "PrimeForm.__eq__", defArgs s_PrimeForm_eq, defBody s_PrimeForm_eq, defScope s_PrimeForm_eq⟩
def fnL : List HookG.GD := [d_is_whole, d_is_short, d_is_from, d_are_short, d_require_short, d_require_from, d_lots_of, d_is_change, d_require_change, d_product_in, d_joined_entries, d_power_in, d_value_in, d_changed_in, d_is_zero_in, d_are_entries, d_form_of, d_require_form, d_sum_in, d_laying_slope, d_laying_slopes, d_add_product, d_laid_in, d_laid, d_require_prime, d_modulo, d_determinant_in, d_is_prime_table, d_require_prime_table, d_changed_modulo, d_law_dice, d_law_roll, d_law_pick, d_law_near, d_law_gcd, d_law_shared, d_law_raised, d_law_choose, d_law_plus, d_law_scaled, d_law_product, d_law_all_product, d_law_power, d_law_by_x, d_law_by_y, d_law_derived, d_law_laid, d_law_plain, d_law_line, d_law_point, d_law_small_form, d_law_form, d_law_det, d_law_some_prime, d_law_prime_table, d_law_right, d_law, d_Told_init, d_Form_init, d_Form_power, d_Form_entries, d_Form_degree, d_Form_is_zero, d_Form_value, d_Form_changed, d_Form_add, d_Form_sub, d_Form_neg, d_Form_mul, d_Form_eq, d_Form_len, d_Form_iter, d_PrimeForm_init, d_PrimeForm_of_form, d_PrimeForm_entries, d_PrimeForm_degree, d_PrimeForm_is_zero, d_PrimeForm_changed, d_PrimeForm_laid, d_PrimeForm_mul, d_PrimeForm_eq]
def faL : List He.Fa := [.glo "is_whole", .glo "is_short", .glo "is_from", .glo "are_short", .glo "require_short", .glo "require_from", .glo "lots_of", .glo "is_change", .glo "require_change", .glo "product_in", .glo "joined_entries", .glo "power_in", .glo "value_in", .glo "changed_in", .glo "is_zero_in", .glo "are_entries", .glo "form_of", .glo "require_form", .glo "sum_in", .glo "laying_slope", .glo "laying_slopes", .glo "add_product", .glo "laid_in", .glo "laid", .glo "require_prime", .glo "modulo", .glo "determinant_in", .glo "is_prime_table", .glo "require_prime_table", .glo "changed_modulo", .glo "_law_dice", .glo "_law_roll", .glo "_law_pick", .glo "_law_near", .glo "_law_gcd", .glo "_law_shared", .glo "_law_raised", .glo "_law_choose", .glo "_law_plus", .glo "_law_scaled", .glo "_law_product", .glo "_law_all_product", .glo "_law_power", .glo "_law_by_x", .glo "_law_by_y", .glo "_law_derived", .glo "_law_laid", .glo "_law_plain", .glo "_law_line", .glo "_law_point", .glo "_law_small_form", .glo "_law_form", .glo "_law_det", .glo "_law_some_prime", .glo "_law_prime_table", .glo "_law_right", .glo "law", .glo "Told", .glo "Form", .glo "PrimeForm", .free "abs", .free "all", .free "any", .free "bool", .free "enumerate", .free "int", .free "isinstance", .free "iter", .free "len", .free "list", .free "max", .free "min", .free "range", .free "tuple", .free "zip", .int "GREATEST" 1000000000000000000000000000000000000000000000000000000000000, .int "MAX_DEGREE" 40, .int "MOST_LAID" 40, .int "MOST_DEGREE" 12, .mkr "Told", .mkr "Form", .mkr "PrimeForm"]
def exL (K : PySem.W.Frag) : Bool := OwnF.ocB K "Told" && (HookG.slotB K "Told" "own_row" 0 && (OwnF.ocB K "Form" && (HookG.slotB K "Form" "own_entries" 0 && (OwnF.ocB K "PrimeForm" && (HookG.slotB K "PrimeForm" "own_entries" 0 && (HookG.slotB K "PrimeForm" "own_prime" 1 && (HookG.mtB K "Told" "__init__" && (HookG.mtB K "Form" "__init__" && (OwnC.cmB K "Form" "power" && (HookG.prB K "Form" "entries" && (HookG.prB K "Form" "degree" && (HookG.prB K "Form" "is_zero" && (HookG.mtB K "Form" "value" && (HookG.mtB K "Form" "changed" && (HookG.mtB K "Form" "__add__" && (HookG.mtB K "Form" "__sub__" && (HookG.mtB K "Form" "__neg__" && (HookG.mtB K "Form" "__mul__" && (HookG.mtB K "Form" "__eq__" && (HookG.mtB K "Form" "__len__" && (HookG.mtB K "Form" "__iter__" && (HookG.mtB K "PrimeForm" "__init__" && (OwnC.cmB K "PrimeForm" "of_form" && (HookG.prB K "PrimeForm" "entries" && (HookG.prB K "PrimeForm" "degree" && (HookG.prB K "PrimeForm" "is_zero" && (HookG.mtB K "PrimeForm" "changed" && (HookG.mtB K "PrimeForm" "laid" && (HookG.mtB K "PrimeForm" "__mul__" && (HookG.mtB K "PrimeForm" "__eq__" && (HookG.dO (PySem.W.kitOne K (.ref (He.ga K "Told")) (.ref (He.ga K "Form"))) (some false) && (HookG.dO (PySem.W.kitOne K (.ref (He.ga K "Told")) (.ref (He.ga K "PrimeForm"))) (some false) && (HookG.dO (PySem.W.kitOne K (.ref (He.ga K "Form")) (.ref (He.ga K "Told"))) (some false) && (HookG.dO (PySem.W.kitOne K (.ref (He.ga K "Form")) (.ref (He.ga K "PrimeForm"))) (some false) && (HookG.dO (PySem.W.kitOne K (.ref (He.ga K "PrimeForm")) (.ref (He.ga K "Told"))) (some false) && (HookG.dO (PySem.W.kitOne K (.ref (He.ga K "PrimeForm")) (.ref (He.ga K "Form"))) (some false) && (StatT.tupB K "PRIMES" [13, 17, 19, 23, 29, 31, 37, 41, 43, 47, 53, 59, 61, 67, 71, 73, 79, 83, 89, 97, 101])))))))))))))))))))))))))))))))))))))
theorem facts_of {K : PySem.W.Frag} {h : Heap} {mg : Str → Option Value} (X : K.In h) (G : h.Ns mainGlobals mg) (c : HookG.SaysG faL fnL exL K) : Nonempty (Facts K mg) := by
  have ex := c.more
  unfold exL at ex
  obtain ⟨ex_0, ex⟩ := He.ba ex
  obtain ⟨ex_1, ex⟩ := He.ba ex
  obtain ⟨ex_2, ex⟩ := He.ba ex
  obtain ⟨ex_3, ex⟩ := He.ba ex
  obtain ⟨ex_4, ex⟩ := He.ba ex
  obtain ⟨ex_5, ex⟩ := He.ba ex
  obtain ⟨ex_6, ex⟩ := He.ba ex
  obtain ⟨ex_7, ex⟩ := He.ba ex
  obtain ⟨ex_8, ex⟩ := He.ba ex
  obtain ⟨ex_9, ex⟩ := He.ba ex
  obtain ⟨ex_10, ex⟩ := He.ba ex
  obtain ⟨ex_11, ex⟩ := He.ba ex
  obtain ⟨ex_12, ex⟩ := He.ba ex
  obtain ⟨ex_13, ex⟩ := He.ba ex
  obtain ⟨ex_14, ex⟩ := He.ba ex
  obtain ⟨ex_15, ex⟩ := He.ba ex
  obtain ⟨ex_16, ex⟩ := He.ba ex
  obtain ⟨ex_17, ex⟩ := He.ba ex
  obtain ⟨ex_18, ex⟩ := He.ba ex
  obtain ⟨ex_19, ex⟩ := He.ba ex
  obtain ⟨ex_20, ex⟩ := He.ba ex
  obtain ⟨ex_21, ex⟩ := He.ba ex
  obtain ⟨ex_22, ex⟩ := He.ba ex
  obtain ⟨ex_23, ex⟩ := He.ba ex
  obtain ⟨ex_24, ex⟩ := He.ba ex
  obtain ⟨ex_25, ex⟩ := He.ba ex
  obtain ⟨ex_26, ex⟩ := He.ba ex
  obtain ⟨ex_27, ex⟩ := He.ba ex
  obtain ⟨ex_28, ex⟩ := He.ba ex
  obtain ⟨ex_29, ex⟩ := He.ba ex
  obtain ⟨ex_30, ex⟩ := He.ba ex
  obtain ⟨ex_31, ex⟩ := He.ba ex
  obtain ⟨ex_32, ex⟩ := He.ba ex
  obtain ⟨ex_33, ex⟩ := He.ba ex
  obtain ⟨ex_34, ex⟩ := He.ba ex
  obtain ⟨ex_35, ex⟩ := He.ba ex
  obtain ⟨ex_36, ex⟩ := He.ba ex
  obtain ⟨fd_is_whole, F_is_whole⟩ := c.def_ 0 (d := d_is_whole) rfl
  obtain ⟨fd_is_short, F_is_short⟩ := c.def_ 1 (d := d_is_short) rfl
  obtain ⟨fd_is_from, F_is_from⟩ := c.def_ 2 (d := d_is_from) rfl
  obtain ⟨fd_are_short, F_are_short⟩ := c.def_ 3 (d := d_are_short) rfl
  obtain ⟨fd_require_short, F_require_short⟩ := c.def_ 4 (d := d_require_short) rfl
  obtain ⟨fd_require_from, F_require_from⟩ := c.def_ 5 (d := d_require_from) rfl
  obtain ⟨fd_lots_of, F_lots_of⟩ := c.def_ 6 (d := d_lots_of) rfl
  obtain ⟨fd_is_change, F_is_change⟩ := c.def_ 7 (d := d_is_change) rfl
  obtain ⟨fd_require_change, F_require_change⟩ := c.def_ 8 (d := d_require_change) rfl
  obtain ⟨fd_product_in, F_product_in⟩ := c.def_ 9 (d := d_product_in) rfl
  obtain ⟨fd_joined_entries, F_joined_entries⟩ := c.def_ 10 (d := d_joined_entries) rfl
  obtain ⟨fd_power_in, F_power_in⟩ := c.def_ 11 (d := d_power_in) rfl
  obtain ⟨fd_value_in, F_value_in⟩ := c.def_ 12 (d := d_value_in) rfl
  obtain ⟨fd_changed_in, F_changed_in⟩ := c.def_ 13 (d := d_changed_in) rfl
  obtain ⟨fd_is_zero_in, F_is_zero_in⟩ := c.def_ 14 (d := d_is_zero_in) rfl
  obtain ⟨fd_are_entries, F_are_entries⟩ := c.def_ 15 (d := d_are_entries) rfl
  obtain ⟨fd_form_of, F_form_of⟩ := c.def_ 16 (d := d_form_of) rfl
  obtain ⟨fd_require_form, F_require_form⟩ := c.def_ 17 (d := d_require_form) rfl
  obtain ⟨fd_sum_in, F_sum_in⟩ := c.def_ 18 (d := d_sum_in) rfl
  obtain ⟨fd_laying_slope, F_laying_slope⟩ := c.def_ 19 (d := d_laying_slope) rfl
  obtain ⟨fd_laying_slopes, F_laying_slopes⟩ := c.def_ 20 (d := d_laying_slopes) rfl
  obtain ⟨fd_add_product, F_add_product⟩ := c.def_ 21 (d := d_add_product) rfl
  obtain ⟨fd_laid_in, F_laid_in⟩ := c.def_ 22 (d := d_laid_in) rfl
  obtain ⟨fd_laid, F_laid⟩ := c.def_ 23 (d := d_laid) rfl
  obtain ⟨fd_require_prime, F_require_prime⟩ := c.def_ 24 (d := d_require_prime) rfl
  obtain ⟨fd_modulo, F_modulo⟩ := c.def_ 25 (d := d_modulo) rfl
  obtain ⟨fd_determinant_in, F_determinant_in⟩ := c.def_ 26 (d := d_determinant_in) rfl
  obtain ⟨fd_is_prime_table, F_is_prime_table⟩ := c.def_ 27 (d := d_is_prime_table) rfl
  obtain ⟨fd_require_prime_table, F_require_prime_table⟩ := c.def_ 28 (d := d_require_prime_table) rfl
  obtain ⟨fd_changed_modulo, F_changed_modulo⟩ := c.def_ 29 (d := d_changed_modulo) rfl
  obtain ⟨fd_law_dice, F_law_dice⟩ := c.def_ 30 (d := d_law_dice) rfl
  obtain ⟨fd_law_roll, F_law_roll⟩ := c.def_ 31 (d := d_law_roll) rfl
  obtain ⟨fd_law_pick, F_law_pick⟩ := c.def_ 32 (d := d_law_pick) rfl
  obtain ⟨fd_law_near, F_law_near⟩ := c.def_ 33 (d := d_law_near) rfl
  obtain ⟨fd_law_gcd, F_law_gcd⟩ := c.def_ 34 (d := d_law_gcd) rfl
  obtain ⟨fd_law_shared, F_law_shared⟩ := c.def_ 35 (d := d_law_shared) rfl
  obtain ⟨fd_law_raised, F_law_raised⟩ := c.def_ 36 (d := d_law_raised) rfl
  obtain ⟨fd_law_choose, F_law_choose⟩ := c.def_ 37 (d := d_law_choose) rfl
  obtain ⟨fd_law_plus, F_law_plus⟩ := c.def_ 38 (d := d_law_plus) rfl
  obtain ⟨fd_law_scaled, F_law_scaled⟩ := c.def_ 39 (d := d_law_scaled) rfl
  obtain ⟨fd_law_product, F_law_product⟩ := c.def_ 40 (d := d_law_product) rfl
  obtain ⟨fd_law_all_product, F_law_all_product⟩ := c.def_ 41 (d := d_law_all_product) rfl
  obtain ⟨fd_law_power, F_law_power⟩ := c.def_ 42 (d := d_law_power) rfl
  obtain ⟨fd_law_by_x, F_law_by_x⟩ := c.def_ 43 (d := d_law_by_x) rfl
  obtain ⟨fd_law_by_y, F_law_by_y⟩ := c.def_ 44 (d := d_law_by_y) rfl
  obtain ⟨fd_law_derived, F_law_derived⟩ := c.def_ 45 (d := d_law_derived) rfl
  obtain ⟨fd_law_laid, F_law_laid⟩ := c.def_ 46 (d := d_law_laid) rfl
  obtain ⟨fd_law_plain, F_law_plain⟩ := c.def_ 47 (d := d_law_plain) rfl
  obtain ⟨fd_law_line, F_law_line⟩ := c.def_ 48 (d := d_law_line) rfl
  obtain ⟨fd_law_point, F_law_point⟩ := c.def_ 49 (d := d_law_point) rfl
  obtain ⟨fd_law_small_form, F_law_small_form⟩ := c.def_ 50 (d := d_law_small_form) rfl
  obtain ⟨fd_law_form, F_law_form⟩ := c.def_ 51 (d := d_law_form) rfl
  obtain ⟨fd_law_det, F_law_det⟩ := c.def_ 52 (d := d_law_det) rfl
  obtain ⟨fd_law_some_prime, F_law_some_prime⟩ := c.def_ 53 (d := d_law_some_prime) rfl
  obtain ⟨fd_law_prime_table, F_law_prime_table⟩ := c.def_ 54 (d := d_law_prime_table) rfl
  obtain ⟨fd_law_right, F_law_right⟩ := c.def_ 55 (d := d_law_right) rfl
  obtain ⟨fd_law, F_law⟩ := c.def_ 56 (d := d_law) rfl
  obtain ⟨fd_Told_init, F_Told_init⟩ := c.def_ 57 (d := d_Told_init) rfl
  obtain ⟨fd_Form_init, F_Form_init⟩ := c.def_ 58 (d := d_Form_init) rfl
  obtain ⟨fd_Form_power, F_Form_power⟩ := c.def_ 59 (d := d_Form_power) rfl
  obtain ⟨fd_Form_entries, F_Form_entries⟩ := c.def_ 60 (d := d_Form_entries) rfl
  obtain ⟨fd_Form_degree, F_Form_degree⟩ := c.def_ 61 (d := d_Form_degree) rfl
  obtain ⟨fd_Form_is_zero, F_Form_is_zero⟩ := c.def_ 62 (d := d_Form_is_zero) rfl
  obtain ⟨fd_Form_value, F_Form_value⟩ := c.def_ 63 (d := d_Form_value) rfl
  obtain ⟨fd_Form_changed, F_Form_changed⟩ := c.def_ 64 (d := d_Form_changed) rfl
  obtain ⟨fd_Form_add, F_Form_add⟩ := c.def_ 65 (d := d_Form_add) rfl
  obtain ⟨fd_Form_sub, F_Form_sub⟩ := c.def_ 66 (d := d_Form_sub) rfl
  obtain ⟨fd_Form_neg, F_Form_neg⟩ := c.def_ 67 (d := d_Form_neg) rfl
  obtain ⟨fd_Form_mul, F_Form_mul⟩ := c.def_ 68 (d := d_Form_mul) rfl
  obtain ⟨fd_Form_eq, F_Form_eq⟩ := c.def_ 69 (d := d_Form_eq) rfl
  obtain ⟨fd_Form_len, F_Form_len⟩ := c.def_ 70 (d := d_Form_len) rfl
  obtain ⟨fd_Form_iter, F_Form_iter⟩ := c.def_ 71 (d := d_Form_iter) rfl
  obtain ⟨fd_PrimeForm_init, F_PrimeForm_init⟩ := c.def_ 72 (d := d_PrimeForm_init) rfl
  obtain ⟨fd_PrimeForm_of_form, F_PrimeForm_of_form⟩ := c.def_ 73 (d := d_PrimeForm_of_form) rfl
  obtain ⟨fd_PrimeForm_entries, F_PrimeForm_entries⟩ := c.def_ 74 (d := d_PrimeForm_entries) rfl
  obtain ⟨fd_PrimeForm_degree, F_PrimeForm_degree⟩ := c.def_ 75 (d := d_PrimeForm_degree) rfl
  obtain ⟨fd_PrimeForm_is_zero, F_PrimeForm_is_zero⟩ := c.def_ 76 (d := d_PrimeForm_is_zero) rfl
  obtain ⟨fd_PrimeForm_changed, F_PrimeForm_changed⟩ := c.def_ 77 (d := d_PrimeForm_changed) rfl
  obtain ⟨fd_PrimeForm_laid, F_PrimeForm_laid⟩ := c.def_ 78 (d := d_PrimeForm_laid) rfl
  obtain ⟨fd_PrimeForm_mul, F_PrimeForm_mul⟩ := c.def_ 79 (d := d_PrimeForm_mul) rfl
  obtain ⟨fd_PrimeForm_eq, F_PrimeForm_eq⟩ := c.def_ 80 (d := d_PrimeForm_eq) rfl
  exact ⟨{ f_is_whole := _, fd_is_whole := _, F_is_whole := F_is_whole, b_is_whole := (F_is_whole.bindsN fun _ _ _ _ _ _ us hl => match us, hl with | [_], _ => rfl), g_is_whole := He.glo_ok X G (c.fact 0 (f := .glo "is_whole") rfl), f_is_short := _, fd_is_short := _, F_is_short := F_is_short, b_is_short := (F_is_short.bindsN fun _ _ _ _ _ _ us hl => match us, hl with | [_], _ => rfl), g_is_short := He.glo_ok X G (c.fact 1 (f := .glo "is_short") rfl), f_is_from := _, fd_is_from := _, F_is_from := F_is_from, b_is_from := (F_is_from.bindsN fun _ _ _ _ _ _ us hl => match us, hl with | [_, _, _], _ => rfl), g_is_from := He.glo_ok X G (c.fact 2 (f := .glo "is_from") rfl), f_are_short := _, fd_are_short := _, F_are_short := F_are_short, b_are_short := (F_are_short.bindsN fun _ _ _ _ _ _ us hl => match us, hl with | [_], _ => rfl), g_are_short := He.glo_ok X G (c.fact 3 (f := .glo "are_short") rfl), f_require_short := _, fd_require_short := _, F_require_short := F_require_short, b_require_short := (F_require_short.bindsN fun _ _ _ _ _ _ us hl => match us, hl with | [_], _ => rfl), g_require_short := He.glo_ok X G (c.fact 4 (f := .glo "require_short") rfl), f_require_from := _, fd_require_from := _, F_require_from := F_require_from, b_require_from := (F_require_from.bindsN fun _ _ _ _ _ _ us hl => match us, hl with | [_, _, _], _ => rfl), g_require_from := He.glo_ok X G (c.fact 5 (f := .glo "require_from") rfl), f_lots_of := _, fd_lots_of := _, F_lots_of := F_lots_of, b_lots_of := (F_lots_of.bindsN fun _ _ _ _ _ _ us hl => match us, hl with | [_, _], _ => rfl), g_lots_of := He.glo_ok X G (c.fact 6 (f := .glo "lots_of") rfl), f_is_change := _, fd_is_change := _, F_is_change := F_is_change, b_is_change := (F_is_change.bindsN fun _ _ _ _ _ _ us hl => match us, hl with | [_], _ => rfl), g_is_change := He.glo_ok X G (c.fact 7 (f := .glo "is_change") rfl), f_require_change := _, fd_require_change := _, F_require_change := F_require_change, b_require_change := (F_require_change.bindsN fun _ _ _ _ _ _ us hl => match us, hl with | [_], _ => rfl), g_require_change := He.glo_ok X G (c.fact 8 (f := .glo "require_change") rfl), f_product_in := _, fd_product_in := _, F_product_in := F_product_in, b_product_in := (F_product_in.bindsN fun _ _ _ _ _ _ us hl => match us, hl with | [_, _], _ => rfl), g_product_in := He.glo_ok X G (c.fact 9 (f := .glo "product_in") rfl), f_joined_entries := _, fd_joined_entries := _, F_joined_entries := F_joined_entries, b_joined_entries := (F_joined_entries.bindsN fun _ _ _ _ _ _ us hl => match us, hl with | [_, _], _ => rfl), g_joined_entries := He.glo_ok X G (c.fact 10 (f := .glo "joined_entries") rfl), f_power_in := _, fd_power_in := _, F_power_in := F_power_in, b_power_in := (F_power_in.bindsN fun _ _ _ _ _ _ us hl => match us, hl with | [_, _], _ => rfl), g_power_in := He.glo_ok X G (c.fact 11 (f := .glo "power_in") rfl), f_value_in := _, fd_value_in := _, F_value_in := F_value_in, b_value_in := (F_value_in.bindsN fun _ _ _ _ _ _ us hl => match us, hl with | [_, _, _], _ => rfl), g_value_in := He.glo_ok X G (c.fact 12 (f := .glo "value_in") rfl), f_changed_in := _, fd_changed_in := _, F_changed_in := F_changed_in, b_changed_in := (F_changed_in.bindsN fun _ _ _ _ _ _ us hl => match us, hl with | [_, _], _ => rfl), g_changed_in := He.glo_ok X G (c.fact 13 (f := .glo "changed_in") rfl), f_is_zero_in := _, fd_is_zero_in := _, F_is_zero_in := F_is_zero_in, b_is_zero_in := (F_is_zero_in.bindsN fun _ _ _ _ _ _ us hl => match us, hl with | [_], _ => rfl), g_is_zero_in := He.glo_ok X G (c.fact 14 (f := .glo "is_zero_in") rfl), f_are_entries := _, fd_are_entries := _, F_are_entries := F_are_entries, b_are_entries := (F_are_entries.bindsN fun _ _ _ _ _ _ us hl => match us, hl with | [_], _ => rfl), g_are_entries := He.glo_ok X G (c.fact 15 (f := .glo "are_entries") rfl), f_form_of := _, fd_form_of := _, F_form_of := F_form_of, b_form_of := (F_form_of.bindsN fun _ _ _ _ _ _ us hl => match us, hl with | [_], _ => rfl), g_form_of := He.glo_ok X G (c.fact 16 (f := .glo "form_of") rfl), f_require_form := _, fd_require_form := _, F_require_form := F_require_form, b_require_form := (F_require_form.bindsN fun _ _ _ _ _ _ us hl => match us, hl with | [_], _ => rfl), g_require_form := He.glo_ok X G (c.fact 17 (f := .glo "require_form") rfl), f_sum_in := _, fd_sum_in := _, F_sum_in := F_sum_in, b_sum_in := (F_sum_in.bindsN fun _ _ _ _ _ _ us hl => match us, hl with | [_, _, _], _ => rfl), g_sum_in := He.glo_ok X G (c.fact 18 (f := .glo "sum_in") rfl), f_laying_slope := _, fd_laying_slope := _, F_laying_slope := F_laying_slope, b_laying_slope := (F_laying_slope.bindsN fun _ _ _ _ _ _ us hl => match us, hl with | [_, _], _ => rfl), g_laying_slope := He.glo_ok X G (c.fact 19 (f := .glo "laying_slope") rfl), f_laying_slopes := _, fd_laying_slopes := _, F_laying_slopes := F_laying_slopes, b_laying_slopes := (F_laying_slopes.bindsN fun _ _ _ _ _ _ us hl => match us, hl with | [_, _], _ => rfl), g_laying_slopes := He.glo_ok X G (c.fact 20 (f := .glo "laying_slopes") rfl), f_add_product := _, fd_add_product := _, F_add_product := F_add_product, b_add_product := (F_add_product.bindsN fun _ _ _ _ _ _ us hl => match us, hl with | [_, _, _, _], _ => rfl), g_add_product := He.glo_ok X G (c.fact 21 (f := .glo "add_product") rfl), f_laid_in := _, fd_laid_in := _, F_laid_in := F_laid_in, b_laid_in := (F_laid_in.bindsN fun _ _ _ _ _ _ us hl => match us, hl with | [_, _, _], _ => rfl), g_laid_in := He.glo_ok X G (c.fact 22 (f := .glo "laid_in") rfl), f_laid := _, fd_laid := _, F_laid := F_laid, b_laid := (F_laid.bindsN fun _ _ _ _ _ _ us hl => match us, hl with | [_, _, _], _ => rfl), g_laid := He.glo_ok X G (c.fact 23 (f := .glo "laid") rfl), f_require_prime := _, fd_require_prime := _, F_require_prime := F_require_prime, b_require_prime := (F_require_prime.bindsN fun _ _ _ _ _ _ us hl => match us, hl with | [_], _ => rfl), g_require_prime := He.glo_ok X G (c.fact 24 (f := .glo "require_prime") rfl), f_modulo := _, fd_modulo := _, F_modulo := F_modulo, b_modulo := (F_modulo.bindsN fun _ _ _ _ _ _ us hl => match us, hl with | [_, _], _ => rfl), g_modulo := He.glo_ok X G (c.fact 25 (f := .glo "modulo") rfl), f_determinant_in := _, fd_determinant_in := _, F_determinant_in := F_determinant_in, b_determinant_in := (F_determinant_in.bindsN fun _ _ _ _ _ _ us hl => match us, hl with | [_], _ => rfl), g_determinant_in := He.glo_ok X G (c.fact 26 (f := .glo "determinant_in") rfl), f_is_prime_table := _, fd_is_prime_table := _, F_is_prime_table := F_is_prime_table, b_is_prime_table := (F_is_prime_table.bindsN fun _ _ _ _ _ _ us hl => match us, hl with | [_, _], _ => rfl), g_is_prime_table := He.glo_ok X G (c.fact 27 (f := .glo "is_prime_table") rfl), f_require_prime_table := _, fd_require_prime_table := _, F_require_prime_table := F_require_prime_table, b_require_prime_table := (F_require_prime_table.bindsN fun _ _ _ _ _ _ us hl => match us, hl with | [_, _], _ => rfl), g_require_prime_table := He.glo_ok X G (c.fact 28 (f := .glo "require_prime_table") rfl), f_changed_modulo := _, fd_changed_modulo := _, F_changed_modulo := F_changed_modulo, b_changed_modulo := (F_changed_modulo.bindsN fun _ _ _ _ _ _ us hl => match us, hl with | [_, _], _ => rfl), g_changed_modulo := He.glo_ok X G (c.fact 29 (f := .glo "changed_modulo") rfl), f_law_dice := _, fd_law_dice := _, F_law_dice := F_law_dice, b_law_dice := (F_law_dice.bindsN fun _ _ _ _ _ _ us hl => match us, hl with | [_, _], _ => rfl), g_law_dice := He.glo_ok X G (c.fact 30 (f := .glo "_law_dice") rfl), f_law_roll := _, fd_law_roll := _, F_law_roll := F_law_roll, b_law_roll := (F_law_roll.bindsN fun _ _ _ _ _ _ us hl => match us, hl with | [_, _], _ => rfl), g_law_roll := He.glo_ok X G (c.fact 31 (f := .glo "_law_roll") rfl), f_law_pick := _, fd_law_pick := _, F_law_pick := F_law_pick, b_law_pick := (F_law_pick.bindsN fun _ _ _ _ _ _ us hl => match us, hl with | [_, _], _ => rfl), g_law_pick := He.glo_ok X G (c.fact 32 (f := .glo "_law_pick") rfl), f_law_near := _, fd_law_near := _, F_law_near := F_law_near, b_law_near := (F_law_near.bindsN fun _ _ _ _ _ _ us hl => match us, hl with | [_, _], _ => rfl), g_law_near := He.glo_ok X G (c.fact 33 (f := .glo "_law_near") rfl), f_law_gcd := _, fd_law_gcd := _, F_law_gcd := F_law_gcd, b_law_gcd := (F_law_gcd.bindsN fun _ _ _ _ _ _ us hl => match us, hl with | [_, _], _ => rfl), g_law_gcd := He.glo_ok X G (c.fact 34 (f := .glo "_law_gcd") rfl), f_law_shared := _, fd_law_shared := _, F_law_shared := F_law_shared, b_law_shared := (F_law_shared.bindsN fun _ _ _ _ _ _ us hl => match us, hl with | [_], _ => rfl), g_law_shared := He.glo_ok X G (c.fact 35 (f := .glo "_law_shared") rfl), f_law_raised := _, fd_law_raised := _, F_law_raised := F_law_raised, b_law_raised := (F_law_raised.bindsN fun _ _ _ _ _ _ us hl => match us, hl with | [_, _], _ => rfl), g_law_raised := He.glo_ok X G (c.fact 36 (f := .glo "_law_raised") rfl), f_law_choose := _, fd_law_choose := _, F_law_choose := F_law_choose, b_law_choose := (F_law_choose.bindsN fun _ _ _ _ _ _ us hl => match us, hl with | [_, _], _ => rfl), g_law_choose := He.glo_ok X G (c.fact 37 (f := .glo "_law_choose") rfl), f_law_plus := _, fd_law_plus := _, F_law_plus := F_law_plus, b_law_plus := (F_law_plus.bindsN fun _ _ _ _ _ _ us hl => match us, hl with | [_, _], _ => rfl), g_law_plus := He.glo_ok X G (c.fact 38 (f := .glo "_law_plus") rfl), f_law_scaled := _, fd_law_scaled := _, F_law_scaled := F_law_scaled, b_law_scaled := (F_law_scaled.bindsN fun _ _ _ _ _ _ us hl => match us, hl with | [_, _], _ => rfl), g_law_scaled := He.glo_ok X G (c.fact 39 (f := .glo "_law_scaled") rfl), f_law_product := _, fd_law_product := _, F_law_product := F_law_product, b_law_product := (F_law_product.bindsN fun _ _ _ _ _ _ us hl => match us, hl with | [_, _], _ => rfl), g_law_product := He.glo_ok X G (c.fact 40 (f := .glo "_law_product") rfl), f_law_all_product := _, fd_law_all_product := _, F_law_all_product := F_law_all_product, b_law_all_product := (F_law_all_product.bindsN fun _ _ _ _ _ _ us hl => match us, hl with | [_], _ => rfl), g_law_all_product := He.glo_ok X G (c.fact 41 (f := .glo "_law_all_product") rfl), f_law_power := _, fd_law_power := _, F_law_power := F_law_power, b_law_power := (F_law_power.bindsN fun _ _ _ _ _ _ us hl => match us, hl with | [_, _], _ => rfl), g_law_power := He.glo_ok X G (c.fact 42 (f := .glo "_law_power") rfl), f_law_by_x := _, fd_law_by_x := _, F_law_by_x := F_law_by_x, b_law_by_x := (F_law_by_x.bindsN fun _ _ _ _ _ _ us hl => match us, hl with | [_], _ => rfl), g_law_by_x := He.glo_ok X G (c.fact 43 (f := .glo "_law_by_x") rfl), f_law_by_y := _, fd_law_by_y := _, F_law_by_y := F_law_by_y, b_law_by_y := (F_law_by_y.bindsN fun _ _ _ _ _ _ us hl => match us, hl with | [_], _ => rfl), g_law_by_y := He.glo_ok X G (c.fact 44 (f := .glo "_law_by_y") rfl), f_law_derived := _, fd_law_derived := _, F_law_derived := F_law_derived, b_law_derived := (F_law_derived.bindsN fun _ _ _ _ _ _ us hl => match us, hl with | [_, _, _], _ => rfl), g_law_derived := He.glo_ok X G (c.fact 45 (f := .glo "_law_derived") rfl), f_law_laid := _, fd_law_laid := _, F_law_laid := F_law_laid, b_law_laid := (F_law_laid.bindsN fun _ _ _ _ _ _ us hl => match us, hl with | [_, _, _], _ => rfl), g_law_laid := He.glo_ok X G (c.fact 46 (f := .glo "_law_laid") rfl), f_law_plain := _, fd_law_plain := _, F_law_plain := F_law_plain, b_law_plain := (F_law_plain.bindsN fun _ _ _ _ _ _ us hl => match us, hl with | [_], _ => rfl), g_law_plain := He.glo_ok X G (c.fact 47 (f := .glo "_law_plain") rfl), f_law_line := _, fd_law_line := _, F_law_line := F_law_line, b_law_line := (F_law_line.bindsN fun _ _ _ _ _ _ us hl => match us, hl with | [_], _ => rfl), g_law_line := He.glo_ok X G (c.fact 48 (f := .glo "_law_line") rfl), f_law_point := _, fd_law_point := _, F_law_point := F_law_point, b_law_point := (F_law_point.bindsN fun _ _ _ _ _ _ us hl => match us, hl with | [_, _], _ => rfl), g_law_point := He.glo_ok X G (c.fact 49 (f := .glo "_law_point") rfl), f_law_small_form := _, fd_law_small_form := _, F_law_small_form := F_law_small_form, b_law_small_form := (F_law_small_form.bindsN fun _ _ _ _ _ _ us hl => match us, hl with | [_, _, _], _ => rfl), g_law_small_form := He.glo_ok X G (c.fact 50 (f := .glo "_law_small_form") rfl), f_law_form := _, fd_law_form := _, F_law_form := F_law_form, b_law_form := (F_law_form.bindsN fun _ _ _ _ _ _ us hl => match us, hl with | [_, _], _ => rfl), g_law_form := He.glo_ok X G (c.fact 51 (f := .glo "_law_form") rfl), f_law_det := _, fd_law_det := _, F_law_det := F_law_det, b_law_det := (F_law_det.bindsN fun _ _ _ _ _ _ us hl => match us, hl with | [_], _ => rfl), g_law_det := He.glo_ok X G (c.fact 52 (f := .glo "_law_det") rfl), f_law_some_prime := _, fd_law_some_prime := _, F_law_some_prime := F_law_some_prime, b_law_some_prime := (F_law_some_prime.bindsN fun _ _ _ _ _ _ us hl => match us, hl with | [_], _ => rfl), g_law_some_prime := He.glo_ok X G (c.fact 53 (f := .glo "_law_some_prime") rfl), f_law_prime_table := _, fd_law_prime_table := _, F_law_prime_table := F_law_prime_table, b_law_prime_table := (F_law_prime_table.bindsN fun _ _ _ _ _ _ us hl => match us, hl with | [_, _], _ => rfl), g_law_prime_table := He.glo_ok X G (c.fact 54 (f := .glo "_law_prime_table") rfl), f_law_right := _, fd_law_right := _, F_law_right := F_law_right, b_law_right := (F_law_right.bindsN fun _ _ _ _ _ _ us hl => match us, hl with | [_], _ => rfl), g_law_right := He.glo_ok X G (c.fact 55 (f := .glo "_law_right") rfl), f_law := _, fd_law := _, F_law := F_law, b_law := (F_law.bindsN fun _ _ _ _ _ _ us hl => match us, hl with | [_], _ => rfl), g_law := He.glo_ok X G (c.fact 56 (f := .glo "law") rfl), f_Told_init := _, fd_Told_init := _, F_Told_init := F_Told_init, b_Told_init := (F_Told_init.bindsN fun _ _ _ _ _ _ us hl => match us, hl with | [_, _], _ => rfl), f_Form_init := _, fd_Form_init := _, F_Form_init := F_Form_init, b_Form_init := (F_Form_init.bindsN fun _ _ _ _ _ _ us hl => match us, hl with | [_, _], _ => rfl), f_Form_power := _, fd_Form_power := _, F_Form_power := F_Form_power, b_Form_power := (F_Form_power.bindsN fun _ _ _ _ _ _ us hl => match us, hl with | [_, _, _], _ => rfl), f_Form_entries := _, fd_Form_entries := _, F_Form_entries := F_Form_entries, b_Form_entries := (F_Form_entries.bindsN fun _ _ _ _ _ _ us hl => match us, hl with | [_], _ => rfl), f_Form_degree := _, fd_Form_degree := _, F_Form_degree := F_Form_degree, b_Form_degree := (F_Form_degree.bindsN fun _ _ _ _ _ _ us hl => match us, hl with | [_], _ => rfl), f_Form_is_zero := _, fd_Form_is_zero := _, F_Form_is_zero := F_Form_is_zero, b_Form_is_zero := (F_Form_is_zero.bindsN fun _ _ _ _ _ _ us hl => match us, hl with | [_], _ => rfl), f_Form_value := _, fd_Form_value := _, F_Form_value := F_Form_value, b_Form_value := (F_Form_value.bindsN fun _ _ _ _ _ _ us hl => match us, hl with | [_, _, _], _ => rfl), f_Form_changed := _, fd_Form_changed := _, F_Form_changed := F_Form_changed, b_Form_changed := (F_Form_changed.bindsN fun _ _ _ _ _ _ us hl => match us, hl with | [_, _], _ => rfl), f_Form_add := _, fd_Form_add := _, F_Form_add := F_Form_add, b_Form_add := (F_Form_add.bindsN fun _ _ _ _ _ _ us hl => match us, hl with | [_, _], _ => rfl), f_Form_sub := _, fd_Form_sub := _, F_Form_sub := F_Form_sub, b_Form_sub := (F_Form_sub.bindsN fun _ _ _ _ _ _ us hl => match us, hl with | [_, _], _ => rfl), f_Form_neg := _, fd_Form_neg := _, F_Form_neg := F_Form_neg, b_Form_neg := (F_Form_neg.bindsN fun _ _ _ _ _ _ us hl => match us, hl with | [_], _ => rfl), f_Form_mul := _, fd_Form_mul := _, F_Form_mul := F_Form_mul, b_Form_mul := (F_Form_mul.bindsN fun _ _ _ _ _ _ us hl => match us, hl with | [_, _], _ => rfl), f_Form_eq := _, fd_Form_eq := _, F_Form_eq := F_Form_eq, b_Form_eq := (F_Form_eq.bindsN fun _ _ _ _ _ _ us hl => match us, hl with | [_, _], _ => rfl), f_Form_len := _, fd_Form_len := _, F_Form_len := F_Form_len, b_Form_len := (F_Form_len.bindsN fun _ _ _ _ _ _ us hl => match us, hl with | [_], _ => rfl), f_Form_iter := _, fd_Form_iter := _, F_Form_iter := F_Form_iter, b_Form_iter := (F_Form_iter.bindsN fun _ _ _ _ _ _ us hl => match us, hl with | [_], _ => rfl), f_PrimeForm_init := _, fd_PrimeForm_init := _, F_PrimeForm_init := F_PrimeForm_init, b_PrimeForm_init := (F_PrimeForm_init.bindsN fun _ _ _ _ _ _ us hl => match us, hl with | [_, _, _], _ => rfl), f_PrimeForm_of_form := _, fd_PrimeForm_of_form := _, F_PrimeForm_of_form := F_PrimeForm_of_form, b_PrimeForm_of_form := (F_PrimeForm_of_form.bindsN fun _ _ _ _ _ _ us hl => match us, hl with | [_, _, _], _ => rfl), f_PrimeForm_entries := _, fd_PrimeForm_entries := _, F_PrimeForm_entries := F_PrimeForm_entries, b_PrimeForm_entries := (F_PrimeForm_entries.bindsN fun _ _ _ _ _ _ us hl => match us, hl with | [_], _ => rfl), f_PrimeForm_degree := _, fd_PrimeForm_degree := _, F_PrimeForm_degree := F_PrimeForm_degree, b_PrimeForm_degree := (F_PrimeForm_degree.bindsN fun _ _ _ _ _ _ us hl => match us, hl with | [_], _ => rfl), f_PrimeForm_is_zero := _, fd_PrimeForm_is_zero := _, F_PrimeForm_is_zero := F_PrimeForm_is_zero, b_PrimeForm_is_zero := (F_PrimeForm_is_zero.bindsN fun _ _ _ _ _ _ us hl => match us, hl with | [_], _ => rfl), f_PrimeForm_changed := _, fd_PrimeForm_changed := _, F_PrimeForm_changed := F_PrimeForm_changed, b_PrimeForm_changed := (F_PrimeForm_changed.bindsN fun _ _ _ _ _ _ us hl => match us, hl with | [_, _], _ => rfl), f_PrimeForm_laid := _, fd_PrimeForm_laid := _, F_PrimeForm_laid := F_PrimeForm_laid, b_PrimeForm_laid := (F_PrimeForm_laid.bindsN fun _ _ _ _ _ _ us hl => match us, hl with | [_, _, _], _ => rfl), f_PrimeForm_mul := _, fd_PrimeForm_mul := _, F_PrimeForm_mul := F_PrimeForm_mul, b_PrimeForm_mul := (F_PrimeForm_mul.bindsN fun _ _ _ _ _ _ us hl => match us, hl with | [_, _], _ => rfl), f_PrimeForm_eq := _, fd_PrimeForm_eq := _, F_PrimeForm_eq := F_PrimeForm_eq, b_PrimeForm_eq := (F_PrimeForm_eq.bindsN fun _ _ _ _ _ _ us hl => match us, hl with | [_, _], _ => rfl), C_Told := He.ga K "Told", g_Told := He.glo_ok X G (c.fact 57 (f := .glo "Told") rfl), mk_Told := He.mkr_ok (c.fact 79 (f := .mkr "Told") rfl), C_Form := He.ga K "Form", g_Form := He.glo_ok X G (c.fact 58 (f := .glo "Form") rfl), mk_Form := He.mkr_ok (c.fact 80 (f := .mkr "Form") rfl), C_PrimeForm := He.ga K "PrimeForm", g_PrimeForm := He.glo_ok X G (c.fact 59 (f := .glo "PrimeForm") rfl), mk_PrimeForm := He.mkr_ok (c.fact 81 (f := .mkr "PrimeForm") rfl), z_abs := He.free_ok X G (c.fact 60 (f := .free "abs") rfl), z_all := He.free_ok X G (c.fact 61 (f := .free "all") rfl), z_any := He.free_ok X G (c.fact 62 (f := .free "any") rfl), z_bool := He.free_ok X G (c.fact 63 (f := .free "bool") rfl), z_enumerate := He.free_ok X G (c.fact 64 (f := .free "enumerate") rfl), z_int := He.free_ok X G (c.fact 65 (f := .free "int") rfl), z_isinstance := He.free_ok X G (c.fact 66 (f := .free "isinstance") rfl), z_iter := He.free_ok X G (c.fact 67 (f := .free "iter") rfl), z_len := He.free_ok X G (c.fact 68 (f := .free "len") rfl), z_list := He.free_ok X G (c.fact 69 (f := .free "list") rfl), z_max := He.free_ok X G (c.fact 70 (f := .free "max") rfl), z_min := He.free_ok X G (c.fact 71 (f := .free "min") rfl), z_range := He.free_ok X G (c.fact 72 (f := .free "range") rfl), z_tuple := He.free_ok X G (c.fact 73 (f := .free "tuple") rfl), z_zip := He.free_ok X G (c.fact 74 (f := .free "zip") rfl), c_GREATEST := He.int_ok X G (c.fact 75 (f := .int "GREATEST" 1000000000000000000000000000000000000000000000000000000000000) rfl), c_MAX_DEGREE := He.int_ok X G (c.fact 76 (f := .int "MAX_DEGREE" 40) rfl), c_MOST_LAID := He.int_ok X G (c.fact 77 (f := .int "MOST_LAID" 40) rfl), c_MOST_DEGREE := He.int_ok X G (c.fact 78 (f := .int "MOST_DEGREE" 12) rfl), oc_Told := OwnF.ocB_ok ex_0, a_own_row := _, sl_own_row := HookG.slotB_ok ex_1 (by decide), oc_Form := OwnF.ocB_ok ex_2, a_own_entries := _, sl_own_entries := HookG.slotB_ok ex_3 (by decide), oc_PrimeForm := OwnF.ocB_ok ex_4, a_PrimeForm_own_entries := _, sl_PrimeForm_own_entries := HookG.slotB_ok ex_5 (by decide), a_own_prime := _, sl_own_prime := HookG.slotB_ok ex_6 (by decide), mt_Told_init := HookG.mtB_ok ex_7, mt_Form_init := HookG.mtB_ok ex_8, p_Form_power := _, cm_Form_power := OwnC.cmB_ok ex_9, p_Form_entries := _, pr_Form_entries := HookG.prB_ok ex_10, p_Form_degree := _, pr_Form_degree := HookG.prB_ok ex_11, p_Form_is_zero := _, pr_Form_is_zero := HookG.prB_ok ex_12, mt_Form_value := HookG.mtB_ok ex_13, mt_Form_changed := HookG.mtB_ok ex_14, mt_Form_add := HookG.mtB_ok ex_15, mt_Form_sub := HookG.mtB_ok ex_16, mt_Form_neg := HookG.mtB_ok ex_17, mt_Form_mul := HookG.mtB_ok ex_18, mt_Form_eq := HookG.mtB_ok ex_19, mt_Form_len := HookG.mtB_ok ex_20, mt_Form_iter := HookG.mtB_ok ex_21, mt_PrimeForm_init := HookG.mtB_ok ex_22, p_PrimeForm_of_form := _, cm_PrimeForm_of_form := OwnC.cmB_ok ex_23, p_PrimeForm_entries := _, pr_PrimeForm_entries := HookG.prB_ok ex_24, p_PrimeForm_degree := _, pr_PrimeForm_degree := HookG.prB_ok ex_25, p_PrimeForm_is_zero := _, pr_PrimeForm_is_zero := HookG.prB_ok ex_26, mt_PrimeForm_changed := HookG.mtB_ok ex_27, mt_PrimeForm_laid := HookG.mtB_ok ex_28, mt_PrimeForm_mul := HookG.mtB_ok ex_29, mt_PrimeForm_eq := HookG.mtB_ok ex_30, kit_Told_Form := HookG.dO_ok ex_31, kit_Told_PrimeForm := HookG.dO_ok ex_32, kit_Form_Told := HookG.dO_ok ex_33, kit_Form_PrimeForm := HookG.dO_ok ex_34, kit_PrimeForm_Told := HookG.dO_ok ex_35, kit_PrimeForm_Form := HookG.dO_ok ex_36, A_PRIMES := _, t_PRIMES := StatT.tupB_ok X G ex }⟩

end K52

set_option Elab.async false
set_option linter.all false
set_option maxRecDepth 100000
set_option maxHeartbeats 0
namespace K52
open PySem PySem.Spec PyProof.Rows L2
abbrev R : PySem.W.OpenRow := PySem.W.OpenLaw.row PySem.Challenge.rw_sourceforms_k52_whole_layings_over_prime
abbrev hk : PySem.W.Hook := HookG.hookW 5 faL fnL exL
def ob (s : PySem.W.SharedT) : HookG.AlG := HookG.obsGW 5 faL fnL exL (HandSHeadRun.getT s)
theorem ob_eq (s : PySem.W.SharedT) : ob s = hk.obs s.abs := HookG.obsGW_eq (HandSHeadRun.getT_eq s)
def loose0 : List Str := ["_wall", "LetterError", "InvalidForm", "InvalidTable", "InvalidPoint", "InvalidOperation", "InvalidNumber", "TooMany", "GREATEST", "is_whole", "is_short", "is_from", "are_short", "require_short", "require_from", "lots_of", "is_change", "require_change", "MAX_DEGREE", "product_in", "joined_entries", "power_in", "value_in", "changed_in", "derived_in", "is_zero_in", "Told", "are_entries", "Form", "form_of"]
def loose1 : List Str := ["require_form", "sum_in", "MOST_LAID", "laying_slope", "laying_slopes", "add_product", "laid_in", "laid", "MOST_DEGREE", "PRIMES", "require_prime", "modulo", "determinant_in", "is_prime_table", "require_prime_table", "PrimeForm", "value_modulo", "changed_modulo", "_law_dice", "_law_roll", "_law_pick", "_law_near", "_law_gcd", "_law_shared", "_law_raised", "_law_choose", "_law_plus", "_law_scaled", "_law_product", "_law_all_product"]
def loose2 : List Str := ["_law_power", "_law_by_x", "_law_by_y", "_law_derived", "_law_laid", "_law_plain", "_law_line", "_law_point", "_law_small_form", "_law_form", "_law_det", "_law_some_prime", "_law_prime_table", "_law_right"]
def loose : List Str := loose0 ++ loose1 ++ loose2
theorem run (w : World) : HandSHeadRun.RunEq R (PySem.W.view R.prog [80]) hk ob 9000 loose w := by
  intro os
  kernel_rfl
end K52

set_option Elab.async false
set_option linter.all false
set_option maxRecDepth 100000
set_option maxHeartbeats 4000000
namespace K52
open PySem PySem.Spec PyProof.Rows L2 MyR SlX OwnR OwnF
/-- an int of at most sixty digits -/
def Sho (i : Int) : Prop := i.natAbs < 10 ^ 60
theorem Same.rf (H : Hp) : Same H H := fun _ _ h => h
@[elab_as_elim] theorem gen_upd {G : Hp → Prop} (H : Hp) (p : Addr) (o : HO) (n : H p = none) (h : ∀ H', Same H H' → H' p = some o → G H') : G (upd H p o) := h _ (same_upd0 n) upd_same
section
variable {P : Program} {w : World} {K : PySem.W.Frag} {mg : Str → Option Value} {base : Heap}
def spWhole : Sp := fun vs H Q _ => ∃ i : Int, vs = [.int i] ∧ Q (.bl true) H
theorem ok_is_whole (T : Facts K mg) : FnOk P w K mg base CX0 1 T.f_is_whole T.fd_is_whole ["value"] spWhole := by
  refine T.F_is_whole.ok sc_is_whole (fun vs H Q E h => ?_) (fun cdv A outer s H vs Q E hr h => ?_)
  · obtain ⟨i, rfl, _⟩ := h
    rfl
  · obtain ⟨i, rfl, q⟩ := h
    refine ⟨_, (PSs.nox (pss_one (ps_ret (pe_and (pe_callB call_isi (by rfl) T.z_isinstance (by decide +kernel) (pa_cons (pv 0) (pa_cons (pe_bltn (v := .ty "int") (by rfl) T.z_int (by decide +kernel) rfl) pa_nil))) (pe_one (pe_not (pe_callB call_isi (by rfl) T.z_isinstance (by decide +kernel) (pa_cons (pv 0) (pa_cons (pe_bltn (v := .ty "bool") (by rfl) T.z_bool (by decide +kernel) rfl) pa_nil))))))))), ?_⟩
    refine ⟨_, rfl, .int i, .ty "int", .type "int", .type "int", true, rfl, .ty "int", .base (.int i), kit_ty (show kitB "int" "int" = some true by decide +kernel), true, rfl, iteT ?_⟩
    exact ⟨_, rfl, .int i, .ty "bool", .type "int", .type "bool", false, rfl, .ty "bool", .base (.int i), kit_ty (show kitB "int" "bool" = some false by decide +kernel), false, rfl, q⟩
def spShort : Sp := fun vs H Q _ => ∃ i : Int, vs = [.int i] ∧ Sho i ∧ Q (.bl true) H
theorem ok_is_short (T : Facts K mg) : FnOk P w K mg base CX0 2 T.f_is_short T.fd_is_short ["value"] spShort := by
  have G_is_whole : FnOk P w K mg base CX0 1 T.f_is_whole T.fd_is_whole ["value"] spWhole := ok_is_whole T
  refine T.F_is_short.ok sc_is_short (fun vs H Q E h => ?_) (fun cdv A outer s H vs Q E hr h => ?_)
  · obtain ⟨i, rfl, _⟩ := h
    rfl
  · obtain ⟨i, rfl, hi, q⟩ := h
    have e60 : (10 : Nat) ^ 60 = 1000000000000000000000000000000000000000000000000000000000000 := by decide
    unfold Sho at hi
    rw [e60] at hi
    refine ⟨_, (PSs.nox (pss_one (ps_ret (pe_and (pe_call G_is_whole hr (by rfl) T.g_is_whole T.F_is_whole.kp T.b_is_whole .nil pass0 (pa_cons (pv 0) pa_nil)) (pe_one (pe_chain op_lt op_lt (pe_un un_neg (pe_glob (v := .int 1000000000000000000000000000000000000000000000000000000000000) (by rfl) T.c_GREATEST.choose_spec ⟨_, rfl⟩)) (pv 0) (pe_glob (v := .int 1000000000000000000000000000000000000000000000000000000000000) (by rfl) T.c_GREATEST.choose_spec ⟨_, rfl⟩))))))), ?_⟩
    refine ⟨_, rfl, i, rfl, true, rfl, iteT ⟨_, rfl, _, rfl, _, i, rfl, rfl, true, ?_, iteT ⟨i, _, rfl, rfl, ?_⟩⟩⟩
    · show V.bl (decide (-1000000000000000000000000000000000000000000000000000000000000 < i)) = V.bl true
      rw [decide_eq_true (by omega)]
    · show Q (V.bl (decide (i < 1000000000000000000000000000000000000000000000000000000000000))) H
      rw [decide_eq_true (by omega)]
      exact q
/-- a tuple of ints -/
abbrev tp (ns : List Int) : HO := .tup (ns.map V.int)
def spAreShort : Sp := fun vs H Q _ => ∃ (t : Addr) (ns : List Int), vs = [.ref t] ∧ H t = some (tp ns) ∧ ns.length ≤ 1000 ∧ (∀ x ∈ ns, Sho x) ∧ ∀ H', Same H H' → Q (.bl true) H'
theorem ok_are_short (T : Facts K mg) : FnOk P w K mg base CX0 3 T.f_are_short T.fd_are_short ["value"] spAreShort := by
  have G_is_short : FnOk P w K mg base CX0 2 T.f_is_short T.fd_is_short ["value"] spShort := ok_is_short T
  refine T.F_are_short.ok sc_are_short (fun vs H Q E h => ?_) (fun cdv A outer s H vs Q E hr h => ?_)
  · obtain ⟨t, ns, rfl, _⟩ := h
    rfl
  · obtain ⟨t, ns, rfl, ht, hl, hs, q⟩ := h
    refine ⟨_, (PSs.nox (pss_one (ps_ret (pe_and (pe_callB call_isi (by rfl) T.z_isinstance (by decide +kernel) (pa_cons (pv 0) (pa_cons (pe_bltn (v := .ty "tuple") (by rfl) T.z_tuple (by decide +kernel) rfl) pa_nil))) (pe_one (pe_callB (cr_all (by rfl)) (by rfl) T.z_all (by decide +kernel) (pa_cons (pe_lc (own := [("entry", 1)]) (g := (gName 1)) (tt := tYes) (by rfl) sc_are_short.nd (pi_tup (pv 0)) (blkOk_by (N := N_are_short) (sc := defScope s_are_short) (by decide +kernel)) (fun _ _ _ _ _ => (pg_name (i := 1) sc_are_short.nd rfl (.inl rfl))) (fun _ _ _ _ _ => pts_nil) (fun _ _ _ _ _ => (pe_call G_is_short hr (by rfl) T.g_is_short T.F_is_short.kp T.b_is_short .nil pass0 (pa_cons (pv 1) pa_nil)))) pa_nil))))))), ?_⟩
    refine ⟨_, rfl, .ref t, .ty "tuple", .type "tuple", .type "tuple", true, rfl, .ty "tuple", .base (.tup ht), kit_ty (show kitB "tuple" "tuple" = some true by decide +kernel), true, rfl, iteT ?_⟩
    refine ⟨_, rfl, t, rfl, ⟨_, SqT.of ht⟩, fun D hD => lc_tup (xs := ns.map V.int) (fun i H' => H' = upd H D (.lst (List.replicate i (V.bl true)))) rfl (fun i H' hi hP => ?_) (fun i x H' hi hP => ?_) (fun H' hP => ?_)⟩
    · rw [hP]
      exact SqT.of (same_upd0 hD _ _ ht)
    · subst hP
      rw [List.getElem?_map] at hi
      obtain ⟨y, hy, rfl⟩ := Option.map_eq_some_iff.mp hi
      have hlt : i < ns.length := (List.getElem?_eq_some_iff.mp hy).1
      refine ⟨rfl, ⟨_, rfl, y, rfl, hs y (List.mem_of_getElem? hy), _, upd_same, ?_, ?_⟩⟩
      · rw [List.length_replicate]
        exact small1000 (by omega)
      · rw [upd_upd, List.replicate_succ']
    · subst hP
      rw [List.length_map]
      refine ⟨D, List.replicate ns.length true, rfl, SqL.of (by rw [upd_same, List.map_replicate]), ?_⟩
      have e : (List.replicate ns.length true).all id = true := by
        rw [List.all_eq_true]
        intro x hx
        rw [(List.mem_replicate.mp hx).2]
        rfl
      rw [e]
      exact q _ (same_upd0 hD)
def spAreEntries : Sp := fun vs H Q _ => ∃ (t : Addr) (ns : List Int), vs = [.ref t] ∧ H t = some (tp ns) ∧ 1 ≤ ns.length ∧ ns.length ≤ 41 ∧ (∀ x ∈ ns, Sho x) ∧ ∀ H', Same H H' → Q (.bl true) H'
theorem ok_are_entries (T : Facts K mg) : FnOk P w K mg base CX0 4 T.f_are_entries T.fd_are_entries ["value"] spAreEntries := by
  have G_are_short : FnOk P w K mg base CX0 3 T.f_are_short T.fd_are_short ["value"] spAreShort := ok_are_short T
  refine T.F_are_entries.ok sc_are_entries (fun vs H Q E h => ?_) (fun cdv A outer s H vs Q E hr h => ?_)
  · obtain ⟨t, ns, rfl, _⟩ := h
    rfl
  · obtain ⟨t, ns, rfl, ht, h1, h41, hs, q⟩ := h
    refine ⟨_, (PSs.nox (pss_one (ps_ret (pe_and (pe_call G_are_short hr (by rfl) T.g_are_short T.F_are_short.kp T.b_are_short .nil pass0 (pa_cons (pv 0) pa_nil)) (pe_one (pe_chain op_le op_le pe_int (pe_callB call_len_seq (by rfl) T.z_len (by decide +kernel) (pa_cons (pv 0) pa_nil)) (pe_op op_add (pe_glob (v := .int 40) (by rfl) T.c_MAX_DEGREE.choose_spec ⟨_, rfl⟩) pe_int))))))), ?_⟩
    refine ⟨_, rfl, t, ns, rfl, ht, by omega, hs, fun H1 s1 => ⟨true, rfl, iteT ?_⟩⟩
    have ht1 := s1 _ _ ht
    refine ⟨_, rfl, t, _, rfl, .inr (SqT.of ht1), 1, _, rfl, rfl, true, ?_, iteT ⟨_, _, rfl, rfl, _, _, rfl, rfl, ?_⟩⟩
    · rw [List.length_map]
      show V.bl (decide ((1 : Int) ≤ (ns.length : Int))) = V.bl true
      rw [decide_eq_true (by omega)]
    · rw [List.length_map]
      show Q (V.bl (decide ((ns.length : Int) ≤ 40 + 1))) H1
      rw [decide_eq_true (by omega)]
      exact q H1 s1
/-! ### making a form -/
/-- a form with these entries -/
def Fo (C : Addr) (H : Hp) (a : Addr) (ns : List Int) : Prop := ∃ dx t, H a = some (SlO a C dx [some (.ref t)]) ∧ H dx = some (.xd []) ∧ H t = some (tp ns)
theorem Fo.same {C a : Addr} {H H' : Hp} {ns : List Int} (h : Fo C H a ns) (s : Same H H') : Fo C H' a ns := by
  obtain ⟨dx, t, h1, h2, h3⟩ := h
  exact ⟨dx, t, s _ _ h1, s _ _ h2, s _ _ h3⟩
theorem Fo.slt {C a : Addr} {H : Hp} {ns : List Int} (h : Fo C H a ns) : ∃ dx t, Slt H a C dx [some (.ref t)] ∧ H t = some (tp ns) := by
  obtain ⟨dx, t, h1, h2, h3⟩ := h
  exact ⟨dx, t, .inr ⟨h1, h2⟩, h3⟩
/-- Told(row) -/
def spTold (C : Addr) : Sp := fun vs H Q _ => ∃ (x dx : Addr) (v : V), vs = [.ref x, v] ∧ Slt H x C dx [] ∧ Q .non (slH H x C dx [some v])
theorem ok_Told_init (T : Facts K mg) : FnOk P w K mg base CX0 1 T.f_Told_init T.fd_Told_init ["self", "row"] (spTold T.C_Told) := by
  refine T.F_Told_init.ok sc_Told_init (fun vs H Q E h => ?_) (fun cdv A outer s H vs Q E hr h => ?_)
  · obtain ⟨x, dx, v, rfl, _⟩ := h
    rfl
  · obtain ⟨x, dx, v, rfl, hx, q⟩ := h
    refine ⟨_, (PSs.nox (pss_one (ps_sl (pv 0) (pv 1)))), ?_⟩
    exact ⟨_, rfl, _, rfl, x, T.C_Told, dx, T.a_own_row, [], 0, rfl, hx, T.oc_Told.scl, T.sl_own_row, q⟩
/-- Form(entries) -/
def spForm (CT CF : Addr) : Sp := fun vs H Q _ => ∃ (x dx y t : Addr), vs = [.ref x, .ref y] ∧ Slt H x CF dx [] ∧ ((∃ dy, Slt H y CT dy [some (.ref t)]) ∨ ∃ ns, y = t ∧ H t = some (tp ns) ∧ 1 ≤ ns.length ∧ ns.length ≤ 41 ∧ ∀ z ∈ ns, Sho z) ∧ ∀ H', Same H H' → Q .non (slH H' x CF dx [some (.ref t)])
theorem Slt.same {C a dx : Addr} {vs : List (Option V)} {H H' : Hp} (h : Slt H a C dx vs) (s : Same H H') : Slt H' a C dx vs := by
  rcases h with ⟨h1, h2⟩ | ⟨h1, h2⟩
  · exact .inl ⟨s _ _ h1, h2⟩
  · exact .inr ⟨s _ _ h1, s _ _ h2⟩
theorem ok_Form_init (T : Facts K mg) : FnOk P w K mg base CX0 5 T.f_Form_init T.fd_Form_init ["self", "entries"] (spForm T.C_Told T.C_Form) := by
  have G_are_entries : FnOk P w K mg base CX0 4 T.f_are_entries T.fd_are_entries ["value"] spAreEntries := ok_are_entries T
  refine T.F_Form_init.ok sc_Form_init (fun vs H Q E h => ?_) (fun cdv A outer s H vs Q E hr h => ?_)
  · obtain ⟨x, dx, y, t, rfl, _⟩ := h
    rfl
  · obtain ⟨x, dx, y, t, rfl, hx, hy, q⟩ := h
    refine ⟨_, (PSs.nox (pss_cons (ps_if (pw_and (pt_not (pt_val (pe_callB (call_isiF T.C_Told) (by rfl) T.z_isinstance (by decide +kernel) (pa_cons (pv 1) (pa_cons (pe_glob (v := .ref T.C_Told) (by rfl) T.g_Told rfl) pa_nil))))) (pw_and1 (pt_not (pt_val (pe_call G_are_entries hr (by rfl) T.g_are_entries T.F_are_entries.kp T.b_are_entries .nil pass0 (pa_cons (pv 1) pa_nil)))))).pt
      (pss_one ps_never)
      pss_nil)
    (pss_one (ps_sl (pv 0) (pe_ifExp (pt_val (pe_callB (call_isiF T.C_Told) (by rfl) T.z_isinstance (by decide +kernel) (pa_cons (pv 1) (pa_cons (pe_glob (v := .ref T.C_Told) (by rfl) T.g_Told rfl) pa_nil)))) (pe_sl (pv 1)) (pv 1)))))), ?_⟩
    rcases hy with ⟨dy, hy⟩ | ⟨ns, rfl, ht, h1, h41, hs⟩
    · refine ⟨_, rfl, .inr ⟨y, T.C_Told, dy, _, .ref T.C_Told, true, rfl, rfl, fun w r => r, hy, T.oc_Told.scl, T.oc_Told.sis, T.oc_Told.kself, true, rfl, iteF ?_⟩⟩
      refine ⟨_, rfl, .inr ⟨y, T.C_Told, dy, _, .ref T.C_Told, true, rfl, rfl, fun w r => r, hy, T.oc_Told.scl, T.oc_Told.sis, T.oc_Told.kself, true, rfl, iteT ?_⟩⟩
      refine ⟨_, rfl, y, T.C_Told, dy, T.a_own_row, _, 0, .ref t, rfl, hy, T.oc_Told.scl, T.sl_own_row, rfl, ?_⟩
      exact ⟨_, rfl, x, T.C_Form, dx, T.a_own_entries, [], 0, rfl, hx, T.oc_Form.scl, T.sl_own_entries, q H (Same.rf H)⟩
    · refine ⟨_, rfl, .inl ⟨.ref y, .ref T.C_Told, .type "tuple", .ref T.C_Told, false, rfl, .own _, .base (.tup ht), T.oc_Told.ktup, false, rfl, iteT ?_⟩⟩
      refine ⟨_, rfl, y, ns, rfl, ht, h1, h41, hs, fun H1 s1 => ⟨true, rfl, iteF ?_⟩⟩
      refine ⟨_, rfl, .inl ⟨.ref y, .ref T.C_Told, .type "tuple", .ref T.C_Told, false, rfl, .own _, .base (.tup (s1 _ _ ht)), T.oc_Told.ktup, false, rfl, iteF ?_⟩⟩
      exact ⟨_, rfl, _, rfl, x, T.C_Form, dx, T.a_own_entries, [], 0, rfl, Slt.same hx s1, T.oc_Form.scl, T.sl_own_entries, q H1 s1⟩
/-- what making leaves -/
theorem made {C x dx : Addr} {v : V} {H' H0 : Hp} (hx : H0 x = none) (hdx : H0 dx = none) (hne : dx ≠ x) (s : Same (upd (upd H0 dx (.own x)) x (.ins C dx [])) H') : Same H0 (slH H' x C dx [some v]) := fun b o e => by
  have h1 : b ≠ x := ne_of_none e hx
  have h2 : b ≠ dx := ne_of_none e hdx
  rw [slH_ne h1 h2]
  exact s _ _ (by rw [upd_ne h1, upd_ne h2]; exact e)
/-- what is made of a row -/
def spMake (C : Addr) : Sp := fun vs H Q _ => ∃ (t : Addr) (ns : List Int), vs = [.ref t] ∧ H t = some (tp ns) ∧ ∀ p H', Same H H' → H p = none → Fo C H' p ns → Q (.ref p) H'
theorem ok_form_of (T : Facts K mg) : FnOk P w K mg base CX0 7 T.f_form_of T.fd_form_of ["entries"] (spMake T.C_Form) := by
  have G_Told_init : FnOk P w K mg base CX0 1 T.f_Told_init T.fd_Told_init ["self", "row"] (spTold T.C_Told) := ok_Told_init T
  have G_Form_init : FnOk P w K mg base CX0 5 T.f_Form_init T.fd_Form_init ["self", "entries"] (spForm T.C_Told T.C_Form) := ok_Form_init T
  refine T.F_form_of.ok sc_form_of (fun vs H Q E h => ?_) (fun cdv A outer s H vs Q E hr h => ?_)
  · obtain ⟨t, ns, rfl, _⟩ := h
    rfl
  · obtain ⟨t, ns, rfl, ht, q⟩ := h
    refine ⟨_, (PSs.nox (pss_one (ps_ret (pe_make T.mk_Form G_Form_init (hr.mono (by decide)) (by rfl) T.g_Form T.b_Form_init .nil pass0 (pa_cons (pe_make T.mk_Told G_Told_init (hr.mono (by decide)) (by rfl) T.g_Told T.b_Told_init .nil pass0 (pa_cons (pv 0) pa_nil)) pa_nil))))), ?_⟩
    refine ⟨_, rfl, fun x dx hx hdx hne => ⟨x, dx, .ref t, rfl, .inl ⟨upd_same, rfl⟩, rfl, ?_⟩⟩
    have s1 : Same H (slH (upd (upd H dx (.own x)) x (.ins T.C_Told dx [])) x T.C_Told dx [some (.ref t)]) := made hx hdx hne (Same.rf _)
    have y1 : Slt (slH (upd (upd H dx (.own x)) x (.ins T.C_Told dx [])) x T.C_Told dx [some (.ref t)]) x T.C_Told dx [some (.ref t)] := slH_slt hne
    generalize slH (upd (upd H dx (.own x)) x (.ins T.C_Told dx [])) x T.C_Told dx [some (.ref t)] = H1 at s1 y1 ⊢
    refine fun x2 dx2 hx2 hdx2 hne2 => ⟨x2, dx2, x, t, rfl, .inl ⟨upd_same, rfl⟩, .inl ⟨dx, ?_⟩, fun H2 s2 => ⟨rfl, ?_⟩⟩
    · exact slt_upd (slt_upd y1 hdx2) (by rw [upd_ne (Ne.symm hne2)]; exact hx2)
    · have s3 : Same H1 (slH H2 x2 T.C_Form dx2 [some (.ref t)]) := made hx2 hdx2 hne2 s2
      have hx0 : H x2 = none := by
        cases e : H x2 with
        | none => rfl
        | some o =>
          have := s1 _ _ e
          rw [hx2] at this
          cases this
      refine q x2 _ (fun b o e => s3 _ _ (s1 _ _ e)) hx0 ⟨dx2, t, upd_same, ?_, s3 _ _ (s1 _ _ ht)⟩
      unfold slH
      rw [upd_ne hne2, upd_same]
end
end K52

set_option Elab.async false
set_option linter.all false
set_option maxRecDepth 100000
set_option maxHeartbeats 4000000
namespace K52
open PySem PySem.Spec PyProof.Rows L2 MyR SlX OwnR OwnF
theorem cv_snoc (x : Int) (g : Nat → Int) : ∀ (l : List Int) (k : Nat), cv (l ++ [x]) g k = cv l g k + (if l.length ≤ k then x * g (k - l.length) else 0)
  | [], k => by
    show cv (x :: []) g k = 0 + (if 0 ≤ k then x * g (k - 0) else 0)
    rw [if_pos (Nat.zero_le k), Nat.sub_zero]
    cases k with
    | zero => rw [cv_zero]; omega
    | succ k => rw [cv_succ]; show x * g (k + 1) + 0 = 0 + x * g (k + 1); omega
  | y :: ys, 0 => by
    show cv (y :: (ys ++ [x])) g 0 = cv (y :: ys) g 0 + (if ys.length + 1 ≤ 0 then _ else 0)
    rw [cv_zero, cv_zero, if_neg (by omega)]
    omega
  | y :: ys, k + 1 => by
    show cv (y :: (ys ++ [x])) g (k + 1) = cv (y :: ys) g (k + 1) + (if ys.length + 1 ≤ k + 1 then x * g (k + 1 - (ys.length + 1)) else 0)
    rw [cv_succ, cv_succ, cv_snoc x g ys k, Nat.add_sub_add_right]
    by_cases h : ys.length ≤ k
    · rw [if_pos h, if_pos (by omega)]; omega
    · rw [if_neg h, if_neg (by omega)]; omega
/-- the entries so far: i rows, and j places of the next one -/
def J (xs : List Int) (g : Nat → Int) (i j k : Nat) : Int := cv (xs.take i) g k + (if i ≤ k ∧ k < i + j then co xs i * g (k - i) else 0)
theorem J_0 {xs : List Int} {g : Nat → Int} {i k : Nat} : J xs g i 0 k = cv (xs.take i) g k := by
  unfold J
  rw [if_neg (by omega)]
  omega
theorem J_step {xs : List Int} {g : Nat → Int} {i j k : Nat} : (if k = i + j then J xs g i j (i + j) + co xs i * g j else J xs g i j k) = J xs g i (j + 1) k := by
  unfold J
  by_cases h : k = i + j
  · subst h
    rw [if_pos rfl, if_neg (by omega), if_pos (by omega), Nat.add_sub_cancel_left]
    omega
  · rw [if_neg h]
    by_cases c : i ≤ k ∧ k < i + j
    · rw [if_pos c, if_pos (by omega)]
    · rw [if_neg c, if_neg (by omega)]
theorem J_end {xs ys : List Int} {i k : Nat} (hi : i < xs.length) : J xs (co ys) i ys.length k = cv (xs.take (i + 1)) (co ys) k := by
  unfold J
  have e : xs.take (i + 1) = xs.take i ++ [xs[i]] := by rw [List.take_add_one, List.getElem?_eq_getElem hi]; rfl
  have hl : (xs.take i).length = i := by rw [List.length_take]; omega
  rw [e, cv_snoc, hl, co_get hi]
  congr 1
  by_cases c : i ≤ k
  · by_cases d : k < i + ys.length
    · rw [if_pos ⟨c, d⟩, if_pos c]
    · rw [if_neg (by omega), if_pos c, co_far (by omega), Int.mul_zero]
  · rw [if_neg (by omega), if_neg c]
def tab (L : Nat) (f : Nat → Int) : List V := (List.range L).map fun k => V.int (f k)
theorem tab_tb (L : Nat) (f : Nat → Int) : tab L f = (tb L f).map V.int := by
  unfold tab tb
  rw [List.map_map]
  rfl
theorem tab_len (L : Nat) (f : Nat → Int) : (tab L f).length = L := by
  unfold tab
  rw [List.length_map, List.length_range]
theorem tab_get {L : Nat} {f : Nat → Int} {k : Nat} (h : k < L) : (tab L f)[k]? = some (.int (f k)) := by
  unfold tab
  rw [List.getElem?_map, List.getElem?_range h]
  rfl
theorem tab_ext {L : Nat} {f g : Nat → Int} (h : ∀ k, k < L → f k = g k) : tab L f = tab L g := by
  unfold tab
  exact List.map_congr_left fun k hk => by rw [h k (List.mem_range.mp hk)]
theorem tab_none {L : Nat} {f : Nat → Int} {k : Nat} (h : L ≤ k) : (tab L f)[k]? = none := List.getElem?_eq_none (by rw [tab_len]; exact h)
theorem tab_set {L : Nat} {f : Nat → Int} {j : Nat} {v : Int} : (tab L f).set j (.int v) = tab L (fun k => if k = j then v else f k) := by
  apply List.ext_getElem?
  intro k
  by_cases hk : k < L
  · rw [tab_get hk]
    by_cases e : k = j
    · subst e
      rw [List.getElem?_set_self (by rw [tab_len]; exact hk), if_pos rfl]
    · rw [List.getElem?_set_ne (Ne.symm e), tab_get hk, if_neg e]
  · rw [tab_none (Nat.le_of_not_lt hk), List.getElem?_eq_none (by rw [List.length_set, tab_len]; exact Nat.le_of_not_lt hk)]
theorem tab_rep (n : Nat) : List.replicate n (V.int 0) = tab n fun _ => 0 := by
  unfold tab
  rw [List.map_const', List.length_range]
theorem ix_at {n : Nat} {z : Int} {j : Nat} (e : z = (j : Int)) (h : j < n) : ixN n z = some j := by
  rw [e]
  exact Evl.ixN_nat h
theorem at_of {xs : List V} {z : Int} {j : Nat} {v : V} (e : z = (j : Int)) (h : xs[j]? = some v) : atI xs z = some v := by
  rw [e]
  exact atI_nat h
/-- ints of less than 400 bits -/
def sm (x : Int) : Prop := x.natAbs < 2 ^ 400
theorem sm_mul {x y : Int} (hx : sm x) (hy : sm y) : CMulW x y := wide_mul hx hy (by decide) (by decide) (by decide)
theorem get_int {xs : List Int} {i : Nat} (h : i < xs.length) : (xs.map V.int)[i]? = some (.int (co xs i)) := by
  rw [List.getElem?_map, List.getElem?_eq_getElem h, co_get h]
  rfl
theorem sm_co {xs : List Int} {i : Nat} (h : ∀ x ∈ xs, sm x) (hi : i < xs.length) : sm (co xs i) := by
  rw [co_get hi]
  exact h _ (List.getElem_mem hi)
section
variable {P : Program} {w : World} {K : PySem.W.Frag} {mg : Str → Option Value} {base : Heap}
def spJoin (K : PySem.W.Frag) : Sp := fun vs H Q _ => ∃ (a b : Addr) (xs ys : List Int), vs = [.ref a, .ref b] ∧ H a = some (tp xs) ∧ H b = some (tp ys) ∧ xs ≠ [] ∧ ys ≠ [] ∧ xs.length ≤ 100 ∧ ys.length ≤ 100 ∧ (∀ x ∈ xs, sm x) ∧ (∀ x ∈ ys, sm x) ∧ ∀ p H', Same H H' → H p = none → H' p = some (tp (ml xs ys)) → Q (.ref p) H'
theorem ok_joined_entries (T : Facts K mg) : FnOk P w K mg base CX0 1 T.f_joined_entries T.fd_joined_entries ["one", "other"] (spJoin K) := by
  refine T.F_joined_entries.ok sc_joined_entries (fun vs H Q E h => ?_) (fun cdv A outer s H vs Q E hr h => ?_)
  · obtain ⟨a, b, xs, ys, rfl, _⟩ := h
    rfl
  · obtain ⟨a, b, xs, ys, rfl, ha, hb, nx, ny, lx, ly, hx, hy, q⟩ := h
    have px : 0 < xs.length := List.length_pos_iff.mpr nx
    have py : 0 < ys.length := List.length_pos_iff.mpr ny
    refine ⟨_, (PSs.nox (pss_cons (ps_setLc (i := 2) (own := [("place", 3)]) (g := (gName 3)) (tt := tYes) rfl sc_joined_entries.nd rfl rfl (sw_true rfl rfl rfl (by decide +kernel)) (pi_range1 (by rfl) T.z_range (pa_cons (pe_op op_sub (pe_op op_add (pe_callB call_len_seq (by rfl) T.z_len (by decide +kernel) (pa_cons (pv 0) pa_nil)) (pe_callB call_len_seq (by rfl) T.z_len (by decide +kernel) (pa_cons (pv 1) pa_nil))) pe_int) pa_nil)) (blkOk_by (N := N_joined_entries) (sc := defScope s_joined_entries) (by decide +kernel)) (fun _ _ _ _ _ => (pg_name (i := 3) sc_joined_entries.nd rfl (.inl rfl))) (fun _ _ _ _ _ => pts_nil) (fun _ _ _ _ _ => pe_int))
    (pss_cons (ps_for PassesOwn.never (by rfl) (pi_range1 (by rfl) T.z_range (pa_cons (pe_callB call_len_seq (by rfl) T.z_len (by decide +kernel) (pa_cons (pv 0) pa_nil)) pa_nil)) (pg_name (i := 4) sc_joined_entries.nd rfl (.inl rfl))
      (pss_one (ps_for PassesOwn.never (by rfl) (pi_range1 (by rfl) T.z_range (pa_cons (pe_callB call_len_seq (by rfl) T.z_len (by decide +kernel) (pa_cons (pv 1) pa_nil)) pa_nil)) (pg_name (i := 3) sc_joined_entries.nd rfl (.inl rfl))
        (pss_one (ps_asg (pe_op op_add (pe_ix ix_list (pv 2) (pe_op op_add (pv 4) (pv 3)) (fun _ _ => rfl)) (pe_op op_mulW (pe_ix ix_tup (pv 0) (pv 4) (fun _ _ => rfl)) (pe_ix ix_tup (pv 1) (pv 3) (fun _ _ => rfl)))) (pg_sub (pv 2) (pe_op op_add (pv 4) (pv 3)) set_list))))))
    (pss_one (ps_ret (pe_tupleOf (by rfl) T.z_tuple (pv 2))))))), ?_⟩
    refine ⟨_, rfl, a, _, rfl, .inr (SqT.of ha), _, rfl, b, _, rfl, .inr (SqT.of hb), ?_⟩
    rw [List.length_map, List.length_map]
    obtain ⟨N, hN⟩ : ∃ N, N = xs.length + ys.length - 1 := ⟨_, rfl⟩
    have eN : (((xs.length : Int) + (ys.length : Int) - 1)).toNat = N := by omega
    refine ⟨_, _, rfl, rfl, _, _, rfl, rfl, _, rfl, (by show -(2 ^ 62) ≤ (xs.length : Int) + (ys.length : Int) - 1; omega), (by show (xs.length : Int) + (ys.length : Int) - 1 < 2 ^ 62; omega), fun D hD => lc_range (n := _) (fun j H' => H' = upd H D (.lst (List.replicate j (V.int 0)))) rfl (fun j H' hj hP => ?_) (fun H' hP => ?_)⟩
    · subst hP
      have hj2 : j < N := by rw [← eN]; exact hj
      refine ⟨rfl, ⟨_, upd_same, ?_, ?_⟩⟩
      · rw [List.length_replicate]
        exact small1000 (by omega)
      · rw [upd_upd, List.replicate_succ']
    · subst hP
      show _
      rw [show List.replicate (((xs.length : Int) + (ys.length : Int) - 1)).toNat (V.int 0) = tab N (fun k => cv (xs.take 0) (co ys) k) by rw [eN, tab_rep]; rfl]
      have sD : ∀ o, Same H (upd H D o) := fun o => same_upd0 hD
      refine ⟨_, rfl, a, _, rfl, .inr (SqT.of (sD _ _ _ ha)), ?_⟩
      rw [List.length_map]
      refine ⟨xs.length, rfl, by omega, by omega, for_range (n := (xs.length : Int).toNat) (fun i σ H' => ∃ y3 y4, σ = [some (.ref a), some (.ref b), some (.ref D), y3, y4] ∧ H' = upd H D (.lst (tab N fun k => cv (xs.take i) (co ys) k))) ⟨none, none, rfl, rfl⟩ (fun i σ H' hi hP => ?_) (fun σ H' hP => ?_)⟩
      · obtain ⟨y3, y4, rfl, rfl⟩ := hP
        have hi2 : i < xs.length := by omega
        refine ⟨_, rfl, b, _, rfl, .inr (SqT.of (sD _ _ _ hb)), ?_⟩
        rw [List.length_map, tab_ext (g := J xs (co ys) i 0) fun k hk => J_0.symm]
        refine ⟨ys.length, rfl, by omega, by omega, for_range (n := (ys.length : Int).toNat) (fun j σ H' => ∃ y3, σ = [some (.ref a), some (.ref b), some (.ref D), y3, some (.int (0 + (i : Int)))] ∧ H' = upd H D (.lst (tab N (J xs (co ys) i j)))) ⟨y3, rfl, rfl⟩ (fun j σ H' hj hP => ?_) (fun σ H' hP => ?_)⟩
        · obtain ⟨y3, rfl, rfl⟩ := hP
          have hj2 : j < ys.length := by omega
          have e1 : (0 : Int) + (i : Int) + (0 + (j : Int)) = ((i + j : Nat) : Int) := by omega
          have e2 : (0 : Int) + (i : Int) = ((i : Nat) : Int) := by omega
          have e3 : (0 : Int) + (j : Int) = ((j : Nat) : Int) := by omega
          refine ⟨_, rfl, _, rfl, _, rfl, _, _, rfl, rfl, D, _, _, _, rfl, rfl, SqL.of upd_same, at_of e1 (tab_get (by omega)), _, rfl, _, rfl, a, _, _, _, rfl, rfl, SqT.of (sD _ _ _ ha), at_of e2 (get_int hi2), _, rfl, _, rfl, b, _, _, _, rfl, rfl, SqT.of (sD _ _ _ hb), at_of e3 (get_int hj2), _, _, rfl, rfl, sm_mul (sm_co hx hi2) (sm_co hy hj2), _, _, rfl, rfl, ?_⟩
          refine ⟨_, rfl, _, rfl, _, rfl, _, _, rfl, rfl, D, _, _, (i + j), rfl, rfl, upd_same, ?_, ?_⟩
          · rw [tab_len]
            exact ix_at e1 (by omega)
          · refine ⟨_, rfl, ?_⟩
            rw [upd_upd]
            show upd H D (.lst ((tab N (J xs (co ys) i j)).set (i + j) (.int (J xs (co ys) i j (i + j) + co xs i * co ys j)))) = _
            rw [tab_set, tab_ext fun k hk => J_step]
        · obtain ⟨y3, rfl, rfl⟩ := hP
          refine ⟨_, _, rfl, ?_⟩
          rw [Int.toNat_natCast, tab_ext fun k hk => J_end hi2]
      · obtain ⟨y3, y4, rfl, rfl⟩ := hP
        rw [Int.toNat_natCast, List.take_length, tab_tb]
        refine ⟨_, rfl, ?_⟩
        refine .inl ⟨D, _, rfl, SqL.of upd_same, fun p hp => ?_⟩
        refine q p _ ((sD _).trans (same_upd0 hp)) (Same.free (sD _) hp) ?_
        rw [upd_same, hN]
        rfl
end
end K52

set_option Elab.async false
set_option linter.all false
set_option maxRecDepth 100000
set_option maxHeartbeats 4000000
namespace K52
open PySem PySem.Spec PyProof.Rows L2 StX RZ MyR SlX OwnR OwnF
/-- a comprehension over zip of two tuples of one length -/
theorem lc_zipT {K : PySem.W.Frag} {a b : Addr} {xs ys : List V} {g : TG} {tt : TT} {te : TE} {vs : List Nat} {σ : L2.St} {H1 : Hp} {D : Addr} {Qd : Hp → Prop} (hl : xs.length = ys.length) (Pv : Nat → Hp → Prop) (h0 : Pv 0 (upd H1 D (.lst []))) (hq : ∀ i H, i ≤ xs.length → Pv i H → SqT K H a xs ∧ SqT K H b ys)
    (hs : ∀ (i : Nat) (x y : V) (T : Addr) (H : Hp), xs[i]? = some x → ys[i]? = some y → Pv i H → H T = none → g (.ref T) (wipe σ vs) (upd H T (.tup [x, y])) fun σ2 H2 => wipe σ2 vs = wipe σ vs ∧ tt σ2 H2 fun b H3 =>
      if b = true then te σ2 H3 fun y H4 => ∃ acc, H4 D = some (.lst acc) ∧ acc.length < sizeLine ∧ Pv (i + 1) (upd H4 D (.lst (acc ++ [y]))) else Pv (i + 1) H3) (hd : ∀ H, Pv xs.length H → Qd H) :
    ∃ W : Nat → Nat → Hp → Prop, (∃ m, W 0 m (upd H1 D (.lst []))) ∧ ∀ i m H, W i m H →
      ((ItzT K a b).stop i H ∧ Qd H) ∨ ((ItzT K a b).go i H ∧ ∃ Nx : Hp → Prop, (∀ H', Nx H' → ∃ m', m' < m ∧ W (i + 1) m' H') ∧ ∀ x H', (ItzT K a b).yld i H x H' → g x (wipe σ vs) H' fun σ2 H2 => wipe σ2 vs = wipe σ vs ∧ tt σ2 H2 fun b H3 =>
        if b = true then te σ2 H3 fun y H4 => ∃ acc, H4 D = some (.lst acc) ∧ acc.length < sizeLine ∧ Nx (upd H4 D (.lst (acc ++ [y]))) else Nx H3) := by
  refine ⟨fun i m H => m = xs.length - i ∧ i ≤ xs.length ∧ Pv i H, ⟨xs.length, by simp, Nat.zero_le _, h0⟩, ?_⟩
  rintro i m H ⟨rfl, hi, p⟩
  obtain ⟨qx, qy⟩ := hq i H hi p
  by_cases hlt : i < xs.length
  · have hlt2 : i < ys.length := by omega
    have hx : xs[i]? = some xs[i] := List.getElem?_eq_getElem hlt
    have hy : ys[i]? = some ys[i] := List.getElem?_eq_getElem hlt2
    refine .inr ⟨⟨xs, ys, _, _, qx, qy, hx, hy⟩, Pv (i + 1), fun H' p' => ⟨xs.length - (i + 1), by omega, rfl, hlt, p'⟩, fun v H' y => ?_⟩
    obtain ⟨T, x', y', rfl, hT, rfl, f1, f2⟩ := y
    exact hs i x' y' T H (f1 xs qx) (f2 ys qy) p hT
  · have e : i = xs.length := by omega
    subst e
    exact .inl ⟨⟨xs, ys, qx, qy, Or.inl (Nat.le_refl _)⟩, hd H p⟩
/-- the sign of the first entry that is not 0 -/
def sg : List Int → Int
  | [] => 1
  | x :: xs => if x = 0 then sg xs else if 0 < x then 1 else -1
theorem sg_cases : ∀ l : List Int, sg l = 1 ∨ sg l = -1
  | [] => .inl rfl
  | x :: xs => by
    unfold sg
    split
    · exact sg_cases xs
    · split
      · exact .inl rfl
      · exact .inr rfl
def part (l : List Int) : Int := (cont l : Int) * sg l
theorem part_abs (l : List Int) : (part l).natAbs = cont l := by
  unfold part
  rw [Int.natAbs_mul]
  rcases sg_cases l with e | e <;> rw [e] <;> simp
theorem sm_cont {l : List Int} (h : ∀ x ∈ l, sm x) : cont l < 2 ^ 400 := by
  by_cases c : ∃ x ∈ l, x ≠ 0
  · obtain ⟨x, hx, h0⟩ := c
    have h1 := Int.natAbs_dvd_natAbs.mpr (cont_dvd l x hx)
    have h2 := Nat.le_of_dvd (Int.natAbs_pos.mpr h0) h1
    exact Nat.lt_of_le_of_lt h2 (h x hx)
  · have hz : ∀ l : List Int, (∀ x ∈ l, x = 0) → cont l = 0 := by
      intro l
      induction l with
      | nil => intro _; rfl
      | cons y ys ih =>
        intro hl
        show Nat.gcd y.natAbs (cont ys) = 0
        rw [ih fun x hx => hl x (List.mem_cons_of_mem _ hx), hl y List.mem_cons_self]
        rfl
    rw [hz l fun x hx => Classical.byContradiction fun q => c ⟨x, hx, q⟩]
    decide
theorem sm_part {l : List Int} (h : ∀ x ∈ l, sm x) : sm (part l) := by
  show (part l).natAbs < _
  rw [part_abs]
  exact sm_cont h
/-- divided by its content, the first entry that is not 0 above 0 -/
def prim (l : List Int) : List Int := if part l = 0 then l else l.map fun x => x.fdiv (part l)
theorem tb_map (f : Int → Int) (l : List Int) : (tb l.length fun k => f (co l k)) = l.map f := by
  conv => rhs; rw [← tb_co l]
  unfold tb
  rw [List.map_map]
  rfl
section
variable {P : Program} {w : World} {K : PySem.W.Frag} {mg : Str → Option Value} {base : Heap}
def spPrim : Sp := fun vs H Q _ => ∃ (t : Addr) (ns : List Int), vs = [.ref t] ∧ H t = some (tp ns) ∧ ns.length ≤ 1000 ∧ (∀ x ∈ ns, sm x) ∧ ∀ p H', Same H H' → H' p = some (tp (prim ns)) → Q (.ref p) H'
/-- the sum of one row and a multiple of the other -/
def zs (c : Int) (xs ys : List Int) : List Int := List.zipWith (fun x y => x + c * y) xs ys
end
end K52

set_option Elab.async false
set_option linter.all false
set_option maxRecDepth 100000
set_option maxHeartbeats 4000000
namespace K52
open PySem PySem.Spec PyProof.Rows L2 StX RZ MyR SlX OwnR OwnF
/-! ### == of tuples of ints -/
theorem dpAll_ints {K : PySem.W.Frag} {H : Hp} : ∀ ns : List Int, DpAll K H (ns.map V.int) (ns.map PyData.int)
  | [] => .nil
  | n :: r => .cons (.int n) (dpAll_ints r)
theorem lay_ints : ∀ ns : List Int, PyData.canLayAll0 (ns.map PyData.int) = true
  | [] => rfl
  | n :: r => by
    show (PyData.canLay0 (.int n) && PyData.canLayAll0 (r.map PyData.int)) = true
    rw [lay_ints r]
    rfl
theorem depth_ints : ∀ ns : List Int, PyData.depthAll (ns.map PyData.int) = 0
  | [] => rfl
  | n :: r => by
    show max (PyData.depth (.int n)) (PyData.depthAll (r.map PyData.int)) = 0
    rw [depth_ints r]
    rfl
theorem shaped_tints (ns : List Int) : SeqAt.shaped (.tuple (ns.map PyData.int)) = true := by
  unfold SeqAt.shaped
  rw [show PyData.canLay0 (.tuple (ns.map PyData.int)) = PyData.canLayAll0 (ns.map PyData.int) from rfl, lay_ints]
  rw [show PyData.depth (.tuple (ns.map PyData.int)) = PyData.depthAll (ns.map PyData.int) + 1 from rfl, depth_ints]
  rfl
/-! ### the properties, the operators -/
section
variable {P : Program} {w : World} {K : PySem.W.Frag} {mg : Str → Option Value} {base : Heap}
def spEnt (C : Addr) : Sp := fun vs H Q _ => ∃ (a : Addr) (ns : List Int), vs = [.ref a] ∧ Fo C H a ns ∧ ∀ t, H t = some (tp ns) → Q (.ref t) H
theorem ok_Form_entries (T : Facts K mg) : FnOk P w K mg base CX0 1 T.f_Form_entries T.fd_Form_entries ["self"] (spEnt T.C_Form) := by
  refine T.F_Form_entries.ok sc_Form_entries (fun vs H Q E h => ?_) (fun cdv A outer s H vs Q E hr h => ?_)
  · obtain ⟨a, ns, rfl, _⟩ := h
    rfl
  · obtain ⟨a, ns, rfl, fa, q⟩ := h
    obtain ⟨dx, t, ha, ht⟩ := fa.slt
    refine ⟨_, (PSs.nox (pss_one (ps_ret (pe_sl (pv 0))))), ?_⟩
    exact ⟨_, rfl, a, T.C_Form, dx, T.a_own_entries, _, 0, .ref t, rfl, ha, T.oc_Form.scl, T.sl_own_entries, rfl, q t ht⟩
def spDeg (C : Addr) : Sp := fun vs H Q _ => ∃ (a : Addr) (ns : List Int), vs = [.ref a] ∧ Fo C H a ns ∧ Q (.int ((ns.length : Int) - 1)) H
theorem ok_Form_degree (T : Facts K mg) : FnOk P w K mg base CX0 1 T.f_Form_degree T.fd_Form_degree ["self"] (spDeg T.C_Form) := by
  refine T.F_Form_degree.ok sc_Form_degree (fun vs H Q E h => ?_) (fun cdv A outer s H vs Q E hr h => ?_)
  · obtain ⟨a, ns, rfl, _⟩ := h
    rfl
  · obtain ⟨a, ns, rfl, fa, q⟩ := h
    obtain ⟨dx, t, ha, ht⟩ := fa.slt
    refine ⟨_, (PSs.nox (pss_one (ps_ret (pe_op op_sub (pe_callB call_len_seq (by rfl) T.z_len (by decide +kernel) (pa_cons (pe_sl (pv 0)) pa_nil)) pe_int)))), ?_⟩
    refine ⟨_, rfl, a, T.C_Form, dx, T.a_own_entries, _, 0, .ref t, rfl, ha, T.oc_Form.scl, T.sl_own_entries, rfl, t, _, rfl, .inr (SqT.of ht), _, _, rfl, rfl, ?_⟩
    rw [List.length_map]
    exact q
/-- what is asked of a form's row -/
structure Rw (ns : List Int) : Prop where
  ne : ns ≠ []
  len : ns.length ≤ 100
  sm : ∀ x ∈ ns, sm x
/-- isinstance(x, Form), x a form -/
theorem isi_form {X : Cx} {C b dy : Addr} {vs : List (Option V)} {H : Hp} {Q : VK} (c : OC X.K C) (hb : Slt H b C dy vs) (q : Q (.bl true) H) : rIsi X.K [.ref b, .ref C] H Q ∨ rIsiSl X.K (.ref C) [.ref b, .ref C] H Q :=
  .inr ⟨b, C, dy, vs, .ref C, true, rfl, rfl, fun w r => r, hb, c.scl, c.sis, c.kself, q⟩
end
end K52

set_option Elab.async false
set_option linter.all false
set_option maxRecDepth 100000
set_option maxHeartbeats 4000000
namespace K52
open PySem PySem.Spec PyProof.Rows L2 StX RZ MyR SlX OwnR OwnF
theorem eqvAll_ints : ∀ xs ys : List Int, PyData.eqvAll (xs.map PyData.int) (ys.map PyData.int) = decide (xs = ys)
  | [], [] => rfl
  | [], _ :: _ => rfl
  | _ :: _, [] => rfl
  | x :: xs, y :: ys => by
    show (PyData.eqv (.int x) (.int y) && PyData.eqvAll (xs.map PyData.int) (ys.map PyData.int)) = _
    rw [eqvAll_ints xs ys]
    show ((x == y) && decide (xs = ys)) = decide (x :: xs = y :: ys)
    by_cases h : x = y
    · by_cases k : xs = ys
      · subst h k
        simp
      · rw [decide_eq_false k, decide_eq_false fun z => k (List.cons.inj z).2, Bool.and_false]
    · rw [decide_eq_false fun z => h (List.cons.inj z).1, beq_eq_false_iff_ne.mpr h, Bool.false_and]
theorem eqv_ints (xs ys : List Int) : PyData.eqv (.tuple (xs.map PyData.int)) (.tuple (ys.map PyData.int)) = decide (xs = ys) := eqvAll_ints xs ys
theorem eq_ints {K : PySem.W.Frag} {H : Hp} {a b : Addr} {xs ys : List Int} {Q : VK} (ha : SqT K H a (xs.map V.int)) (hb : SqT K H b (ys.map V.int)) (q : Q (.bl (decide (xs = ys))) H) : rEqD K (.ref a) (.ref b) H Q := by
  refine ⟨_, _, .tup ha (dpAll_ints xs), .tup hb (dpAll_ints ys), shaped_tints xs, shaped_tints ys, ?_⟩
  rw [eqv_ints]
  exact q
theorem ne_ints {K : PySem.W.Frag} {H : Hp} {a b : Addr} {xs ys : List Int} {Q : VK} (ha : SqT K H a (xs.map V.int)) (hb : SqT K H b (ys.map V.int)) (q : Q (.bl (!decide (xs = ys))) H) : rNeD K (.ref a) (.ref b) H Q := by
  refine ⟨_, _, .tup ha (dpAll_ints xs), .tup hb (dpAll_ints ys), shaped_tints xs, shaped_tints ys, ?_⟩
  rw [eqv_ints]
  exact q
section
variable {P : Program} {w : World} {K : PySem.W.Frag} {mg : Str → Option Value} {base : Heap}
end
end K52

set_option Elab.async false
set_option linter.all false
set_option maxRecDepth 100000
set_option maxHeartbeats 4000000
namespace K52
open PySem PySem.Spec PyProof.Rows L2 StX RZ MyR SlX OwnR OwnF
abbrev dice (x y z : Int) : HO := .lst [.int x, .int y, .int z]
/-- all but the dice is as it was -/
def Sx (a : Addr) (H H' : Hp) : Prop := ∀ b o, b ≠ a → H b = some o → H' b = some o
def Dc (H : Hp) (a : Addr) : Prop := ∃ x y z, H a = some (dice x y z)
theorem Sx.refl (a : Addr) (H : Hp) : Sx a H H := fun _ _ _ h => h
theorem Sx.trans {a : Addr} {H H1 H2 : Hp} (s : Sx a H H1) (t : Sx a H1 H2) : Sx a H H2 := fun b o n h => t b o n (s b o n h)
theorem Sx.of {a : Addr} {H H' : Hp} (s : Same H H') : Sx a H H' := fun b o _ h => s b o h
theorem Sx.upd {a : Addr} {H : Hp} {o : HO} : Sx a H (upd H a o) := fun b u n h => by
  rw [upd_ne n]
  exact h
theorem Dc.same {a : Addr} {H H' : Hp} (d : Dc H a) (s : Same H H') : Dc H' a := by
  obtain ⟨x, y, z, e⟩ := d
  exact ⟨x, y, z, s _ _ e⟩
theorem Dc.ne {a p : Addr} {H : Hp} (d : Dc H a) (n : H p = none) : p ≠ a := fun e => by
  obtain ⟨x, y, z, h⟩ := d
  rw [e, h] at n
  cases n
theorem Sx.free {a p : Addr} {H H' : Hp} (s : Sx a H H') (n : H' p = none) (ne : p ≠ a) : H p = none := by
  cases q : H p with
  | none => rfl
  | some o =>
    rw [s p o ne q] at n
    cases n
theorem script_Sx {K : PySem.W.Frag} {d a : Addr} {H H' : Hp} {o : HO} {xs : List V} (s : Sx d (upd H d o) H') (n : H d = none) (h : SqL K H a xs) : SqL K H' a xs := by
  rcases h with (h | ⟨u, h⟩) | h
  · have ne : a ≠ d := ne_of_none h n
    exact .inl (.inl (s a _ ne (by rw [upd_ne ne]; exact h)))
  · have ne : a ≠ d := ne_of_none h n
    exact .inl (.inr ⟨u, s a _ ne (by rw [upd_ne ne]; exact h)⟩)
  · exact .inr h
section
variable {P : Program} {w : World} {K : PySem.W.Frag} {mg : Str → Option Value} {base : Heap}
theorem cp16 : CPow 10 16 := ⟨by decide, by decide, by decide⟩
theorem cp60 : CPow 10 60 := ⟨by decide, by decide, by decide⟩
theorem cw60 : CMulW (10 ^ Int.toNat 60) (10 ^ Int.toNat 60) := by
  unfold CMulW
  decide +kernel
theorem pos60 : (0 : Int) < 10 ^ Int.toNat 60 * 10 ^ Int.toNat 60 := by decide +kernel
theorem pos_m : (0 : Int) < 1152921504606846697 := by decide
theorem sz3 : 3 ≤ sizeLine := by decide
def spDice (K : PySem.W.Frag) : Sp := fun vs H Q _ => ∃ (a : Addr) (ns : List Int) (k : Nat), vs = [.ref a, .int k] ∧ SqL K H a (ns.map V.int) ∧ ∀ p x y z, H p = none → Q (.ref p) (upd H p (dice x y z))
theorem ok_law_dice (T : Facts K mg) : FnOk P w K mg base CX0 1 T.f_law_dice T.fd_law_dice ["_law_script", "_law_spot"] (spDice K) := by
  refine T.F_law_dice.ok sc_law_dice (fun vs H Q E h => ?_) (fun cdv A outer s H vs Q E hr h => ?_)
  · obtain ⟨a, ns, k, rfl, _⟩ := h
    rfl
  · obtain ⟨a, ns, k, rfl, hS, q⟩ := h
    refine ⟨_, (PSs.nox (pss_cons (ps_set (i := 2) sc_law_dice.nd rfl (.inl rfl) (pe_ifExp (pt_cmpR op_lt (pv 1) (pe_callB call_len_seq (by rfl) T.z_len (by decide +kernel) (pa_cons (pv 0) pa_nil)) (nomark _)) (pe_callTy call_int1 (by rfl) T.z_int (by decide +kernel) (pa_cons (pe_ix ix_list (pv 0) (pv 1) (fun _ _ => rfl)) pa_nil)) (pe_op op_add (pe_op op_mul pe_int (pv 1)) pe_int)))
    (pss_cons (ps_set (i := 3) sc_law_dice.nd rfl (.inl rfl) (pe_op op_mod (pe_callB (call_max2 (by rfl)) (by rfl) T.z_max (by decide +kernel) (pa_cons pe_int (pa_cons (pe_op op_sub (pe_callB call_abs (by rfl) T.z_abs (by decide +kernel) (pa_cons (pv 2) pa_nil)) (pe_op op_pow pe_int pe_int)) pa_nil))) (pe_op op_mulW (pe_op op_pow pe_int pe_int) (pe_op op_pow pe_int pe_int))))
    (pss_one (ps_ret (pe_lst (pa_cons (pv 3) (pa_cons (pe_op op_add (pe_op op_add (pe_op op_add (pe_op op_mul (pe_op op_mod (pe_callB call_abs (by rfl) T.z_abs (by decide +kernel) (pa_cons (pv 2) pa_nil)) pe_int) pe_int) (pe_op op_mul pe_int (pv 1))) (pe_op op_mul pe_int (pe_callTy call_int1 (by rfl) T.z_int (by decide +kernel) (pa_cons (pe_cmpR op_lt (pv 2) pe_int (nomark _)) pa_nil)))) pe_int) (pa_cons pe_int pa_nil))))))))), ?_⟩
    refine ⟨.int k, rfl, .ref a, rfl, a, ns.map V.int, rfl, .inl hS, k, _, rfl, rfl, _, rfl, ?_⟩
    rw [List.length_map]
    by_cases h1 : (k : Int) < (ns.length : Int)
    · rw [decide_eq_true h1]
      have hj : k < ns.length := by omega
      refine iteT ⟨.ref a, rfl, .int k, rfl, a, ns.map V.int, k, .int ns[k], rfl, rfl, hS, atI_nat (by rw [List.getElem?_map, List.getElem?_eq_getElem hj]; rfl), .inl ⟨_, rfl, ?_⟩⟩
      refine ⟨.int ns[k], rfl, _, rfl, 10, 16, rfl, rfl, cp16, _, _, rfl, rfl, 0, _, rfl, 10, 60, rfl, rfl, cp60, 10, 60, rfl, rfl, cp60, _, _, rfl, rfl, cw60, _, _, rfl, rfl, pos60, ?_⟩
      refine ⟨_, rfl, .int ns[k], rfl, _, rfl, _, _, rfl, rfl, pos_m, _, _, rfl, rfl, .inr ⟨by decide, by decide⟩, .int k, rfl, _, _, rfl, rfl, .inl ⟨by decide, by decide⟩, _, _, rfl, rfl, .int ns[k], rfl, _, _, rfl, rfl, .inr ⟨_, rfl, _, _, rfl, rfl, .inl ⟨by decide, by decide⟩, _, _, rfl, rfl, _, _, rfl, rfl, ?_⟩⟩
      exact ⟨sz3, fun p hp => q p _ _ _ hp⟩
    · rw [decide_eq_false h1]
      refine iteF ⟨.int k, rfl, _, _, rfl, rfl, .inl ⟨by decide, by decide⟩, _, _, rfl, rfl, ?_⟩
      refine ⟨_, rfl, _, rfl, 10, 16, rfl, rfl, cp16, _, _, rfl, rfl, 0, _, rfl, 10, 60, rfl, rfl, cp60, 10, 60, rfl, rfl, cp60, _, _, rfl, rfl, cw60, _, _, rfl, rfl, pos60, ?_⟩
      refine ⟨_, rfl, _, rfl, _, rfl, _, _, rfl, rfl, pos_m, _, _, rfl, rfl, .inr ⟨by decide, by decide⟩, .int k, rfl, _, _, rfl, rfl, .inl ⟨by decide, by decide⟩, _, _, rfl, rfl, _, rfl, _, _, rfl, rfl, .inr ⟨_, rfl, _, _, rfl, rfl, .inl ⟨by decide, by decide⟩, _, _, rfl, rfl, _, _, rfl, rfl, ?_⟩⟩
      exact ⟨sz3, fun p hp => q p _ _ _ hp⟩
def spRoll : Sp := fun vs H Q _ => ∃ (a : Addr) (x y z n : Int), vs = [.ref a, .int n] ∧ H a = some (dice x y z) ∧ 0 < n ∧ n.natAbs.log2 < 9000 ∧ ∀ r x' z', 0 ≤ r → r < n → Q (.int r) (upd H a (dice x' y z'))
theorem ok_law_roll (T : Facts K mg) : FnOk P w K mg base CX0 1 T.f_law_roll T.fd_law_roll ["_law_dice_here", "_law_total"] spRoll := by
  refine T.F_law_roll.ok sc_law_roll (fun vs H Q E h => ?_) (fun cdv A outer s H vs Q E hr h => ?_)
  · obtain ⟨a, x, y, z, n, rfl, _⟩ := h
    rfl
  · obtain ⟨a, x, y, z, n, rfl, hd, h0, h1, q⟩ := h
    have hS : SqL K H a [.int x, .int y, .int z] := SqL.of hd
    refine ⟨_, (PSs.nox (pss_cons (ps_if (pt_cmpR op_gt (pe_ix ix_list (pv 0) pe_int (fun _ _ => rfl)) pe_int (nomark _))
      (pss_cons (ps_set (i := 2) sc_law_roll.nd rfl (.inl rfl) (pe_op op_mod (pe_callTy call_int1 (by rfl) T.z_int (by decide +kernel) (pa_cons (pe_ix ix_list (pv 0) pe_int (fun _ _ => rfl)) pa_nil)) (pv 1)))
      (pss_cons (ps_asg (pe_op op_fdivW (pe_ix ix_list (pv 0) pe_int (fun _ _ => rfl)) (pv 1)) (pg_sub (pv 0) pe_int set_list))
      (pss_one (ps_ret (pv 2)))))
      pss_nil)
    (pss_cons (ps_asg (pe_op op_add (pe_ix ix_list (pv 0) pe_int (fun _ _ => rfl)) pe_int) (pg_sub (pv 0) pe_int set_list))
    (pss_cons (ps_set (i := 3) sc_law_roll.nd rfl (.inl rfl) (pe_op op_mod (pe_callTy call_int1 (by rfl) T.z_int (by decide +kernel) (pa_cons (pe_op op_add (pe_ix ix_list (pv 0) pe_int (fun _ _ => rfl)) (pe_op op_mul pe_int (pe_ix ix_list (pv 0) pe_int (fun _ _ => rfl)))) pa_nil)) pe_int))
    (pss_cons (ps_set (i := 4) sc_law_roll.nd rfl (.inl rfl) (pe_op op_add (pe_op op_mul (pe_op op_mod (pe_callTy call_int1 (by rfl) T.z_int (by decide +kernel) (pa_cons (pe_op op_add (pe_op op_mul (pv 3) (pv 3)) (pe_op op_mul pe_int (pe_ix ix_list (pv 0) pe_int (fun _ _ => rfl)))) pa_nil)) pe_int) pe_int) (pv 3)))
    (pss_one (ps_ret (pe_op op_mod (pe_callTy call_int1 (by rfl) T.z_int (by decide +kernel) (pa_cons (pe_op op_fdivW (pv 4) pe_int) pa_nil)) (pv 1))))))))), ?_⟩
    refine ⟨.ref a, rfl, a, _, 0, .int x, rfl, rfl, hS, atI_nat (j := 0) rfl, x, 0, rfl, rfl, decide (0 < x), rfl, ite2 (fun _ => ?_) (fun _ => ?_)⟩
    · refine ⟨.ref a, rfl, a, _, 0, .int x, rfl, rfl, hS, atI_nat (j := 0) rfl, .inl ⟨x, rfl, .int n, rfl, x, n, rfl, rfl, h0, ?_⟩⟩
      refine ⟨.ref a, rfl, a, _, 0, .int x, rfl, rfl, hS, atI_nat (j := 0) rfl, .int n, rfl, x, n, rfl, rfl, ⟨h0, h1⟩, ?_⟩
      refine ⟨.ref a, rfl, a, _, 0, 0, rfl, rfl, hd, rfl, ?_⟩
      exact ⟨_, rfl, q (x % n) (x / n) z (Int.emod_nonneg _ (by omega)) (Int.emod_lt_of_pos _ h0)⟩
    · refine ⟨.ref a, rfl, a, _, 2, .int z, rfl, rfl, hS, atI_nat (j := 2) rfl, z, 1, rfl, rfl, ?_⟩
      refine ⟨.ref a, rfl, a, _, 2, 2, rfl, rfl, hd, rfl, ?_⟩
      have hd' : (upd H a (dice x y (z + 1))) a = some (dice x y (z + 1)) := upd_same
      have hS' : SqL K (upd H a (dice x y (z + 1))) a [.int x, .int y, .int (z + 1)] := SqL.of hd'
      refine ⟨.ref a, rfl, a, _, 1, .int y, rfl, rfl, hS', atI_nat (j := 1) rfl, .ref a, rfl, a, _, 2, .int (z + 1), rfl, rfl, hS', atI_nat (j := 2) rfl, _, _, rfl, rfl, .inl ⟨by decide, by decide⟩, _, _, rfl, rfl, .inl ⟨_, rfl, _, _, rfl, rfl, (by decide : (0 : Int) < 2305843009213691579), ?_⟩⟩
      have b0 := Int.emod_nonneg (y + 92821991 * (z + 1)) (show (2305843009213691579 : Int) ≠ 0 by decide)
      have b1 := Int.emod_lt_of_pos (y + 92821991 * (z + 1)) (show (0 : Int) < 2305843009213691579 by decide)
      refine ⟨_, rfl, _, rfl, _, _, rfl, rfl, .inl ⟨Int.lt_of_lt_of_le (by decide) b0, Int.lt_trans b1 (by decide)⟩, .ref a, rfl, a, _, 2, .int (z + 1), rfl, rfl, hS', atI_nat (j := 2) rfl, _, _, rfl, rfl, .inl ⟨by decide, by decide⟩, _, _, rfl, rfl, .inl ⟨_, rfl, _, _, rfl, rfl, (by decide : (0 : Int) < 2305843009213692227), _, _, rfl, rfl, .inr ⟨by decide, by decide⟩, _, rfl, _, _, rfl, rfl, ?_⟩⟩
      refine ⟨_, rfl, _, _, rfl, rfl, ⟨by decide, by decide +kernel⟩, .inl ⟨_, rfl, .int n, rfl, _, _, rfl, rfl, h0, ?_⟩⟩
      exact q _ x (z + 1) (Int.emod_nonneg _ (by omega)) (Int.emod_lt_of_pos _ h0)
def spPick (K : PySem.W.Frag) : Sp := fun vs H Q _ => ∃ (a b : Addr) (x y z : Int) (xs : List V), vs = [.ref a, .ref b] ∧ H a = some (dice x y z) ∧ H b = some (.lst xs) ∧ a ≠ b ∧ 0 < xs.length ∧ xs.length < 1000 ∧
  ∀ (i : Nat) v x' z', xs[i]? = some v → Q v (upd H a (dice x' y z'))
theorem ok_law_pick (T : Facts K mg) : FnOk P w K mg base CX0 2 T.f_law_pick T.fd_law_pick ["_law_dice_here", "_law_items"] (spPick K) := by
  have G_law_roll : FnOk P w K mg base CX0 1 T.f_law_roll T.fd_law_roll ["_law_dice_here", "_law_total"] spRoll := ok_law_roll T
  refine T.F_law_pick.ok sc_law_pick (fun vs H Q E h => ?_) (fun cdv A outer s H vs Q E hr h => ?_)
  · obtain ⟨a, b, x, y, z, xs, rfl, _⟩ := h
    rfl
  · obtain ⟨a, b, x, y, z, xs, rfl, hd, hb, hab, l0, l1, q⟩ := h
    refine ⟨_, (PSs.nox (pss_one (ps_ret (pe_ix ix_list (pv 1) (pe_call G_law_roll hr (by rfl) T.g_law_roll T.F_law_roll.kp T.b_law_roll .nil pass0 (pa_cons (pv 0) (pa_cons (pe_callB call_len_seq (by rfl) T.z_len (by decide +kernel) (pa_cons (pv 1) pa_nil)) pa_nil))) (fun _ _ => rfl))))), ?_⟩
    refine ⟨.ref b, rfl, .ref a, rfl, .ref b, rfl, b, xs, rfl, .inl (SqL.of hb), ?_⟩
    refine ⟨a, x, y, z, _, rfl, hd, (by omega : (0 : Int) < (xs.length : Int)), Nat.lt_trans (PySem.Flt.log2_lt_of (k := 10) (by decide) (by show xs.length < 2 ^ 10; omega)) (by decide), fun r x' z' h1 h2 => ?_⟩
    obtain ⟨j, rfl⟩ := Int.eq_ofNat_of_zero_le h1
    have hj : j < xs.length := by omega
    exact ⟨b, xs, j, xs[j], rfl, rfl, SqL.of (by rw [upd_ne (Ne.symm hab)]; exact hb), atI_nat (List.getElem?_eq_getElem hj), q j _ x' z' (List.getElem?_eq_getElem hj)⟩
def spRoll2 : Sp := fun vs H Q _ => ∃ (a : Addr) (n : Int), vs = [.ref a, .int n] ∧ Dc H a ∧ 0 < n ∧ n.natAbs.log2 < 9000 ∧ ∀ (r : Nat) H', (r : Int) < n → Sx a H H' → Dc H' a → Q (.int r) H'
theorem roll2 : ∀ vs H Q E, spRoll2 vs H Q E → spRoll vs H Q E := fun vs H Q E h => by
  obtain ⟨a, n, rfl, ⟨x, y, z, e⟩, h0, h1, q⟩ := h
  refine ⟨a, x, y, z, n, rfl, e, h0, h1, fun r x' z' r0 r1 => ?_⟩
  obtain ⟨j, rfl⟩ := Int.eq_ofNat_of_zero_le r0
  exact q j _ r1 Sx.upd ⟨x', y, z', upd_same⟩
def spPick2 : Sp := fun vs H Q _ => ∃ (a b : Addr) (xs : List V), vs = [.ref a, .ref b] ∧ Dc H a ∧ H b = some (.lst xs) ∧ b ≠ a ∧ 0 < xs.length ∧ xs.length < 1000 ∧ ∀ v H', v ∈ xs → Sx a H H' → Dc H' a → Q v H'
theorem pick2 {K : PySem.W.Frag} : ∀ vs H Q E, spPick2 vs H Q E → spPick K vs H Q E := fun vs H Q E h => by
  obtain ⟨a, b, xs, rfl, ⟨x, y, z, e⟩, hb, ne, l0, l1, q⟩ := h
  exact ⟨a, b, x, y, z, xs, rfl, e, hb, Ne.symm ne, l0, l1, fun i v x' z' hv => q v _ (List.mem_of_getElem? hv) Sx.upd ⟨x', y, z', upd_same⟩⟩
def spNear : Sp := fun vs H Q _ => ∃ (a : Addr) (m : Int), vs = [.ref a, .int m] ∧ Dc H a ∧ 0 ≤ m ∧ m ≤ 10 ^ 15 ∧ ∀ r H', -m ≤ r → r ≤ m → Sx a H H' → Dc H' a → Q (.int r) H'
theorem ok_law_near (T : Facts K mg) : FnOk P w K mg base CX0 2 T.f_law_near T.fd_law_near ["_law_dice_here", "_law_most"] spNear := by
  have G_law_roll : FnOk P w K mg base CX0 1 T.f_law_roll T.fd_law_roll ["_law_dice_here", "_law_total"] spRoll2 := (ok_law_roll T).imp roll2
  refine T.F_law_near.ok sc_law_near (fun vs H Q E h => ?_) (fun cdv A outer s H vs Q E hr h => ?_)
  · obtain ⟨a, m, rfl, _⟩ := h
    rfl
  · obtain ⟨a, m, rfl, hd, h0, h1, q⟩ := h
    refine ⟨_, (PSs.nox (pss_one (ps_ret (pe_op op_sub (pe_call G_law_roll hr (by rfl) T.g_law_roll T.F_law_roll.kp T.b_law_roll .nil pass0 (pa_cons (pv 0) (pa_cons (pe_op op_add (pe_op op_mul pe_int (pv 1)) pe_int) pa_nil))) (pv 1))))), ?_⟩
    have e15 : (10 : Int) ^ 15 = 1000000000000000 := by decide
    rw [e15] at h1
    refine ⟨_, rfl, _, rfl, _, _, rfl, rfl, .inl ⟨by decide, by decide⟩, _, _, rfl, rfl, a, _, rfl, hd, (by show 0 < 2 * m + 1; omega), ?_, fun r H' hr s d => ⟨_, rfl, _, _, rfl, rfl, ?_⟩⟩
    · refine Nat.lt_trans (PySem.Flt.log2_lt_of (k := 60) (by decide) ?_) (by decide)
      show (2 * m + 1).natAbs < 2 ^ 60
      omega
    · have hr' : (r : Int) < 2 * m + 1 := hr
      exact q _ H' (by omega) (by omega) s d
/-! ### the law's own gcd -/
def spLGcd : Sp := fun vs H Q _ => ∃ t b : Int, vs = [.int t, .int b] ∧ Q (.int ((Nat.gcd t.natAbs b.natAbs : Nat) : Int)) H
def yOf : L2.St → Nat
  | [_, some (.int y)] => y.toNat
  | _ => 0
theorem abs_nat (i : Int) : (if i < 0 then -i else i) = (i.natAbs : Int) := by split <;> omega
theorem ok_law_gcd (T : Facts K mg) : FnOk P w K mg base CX0 1 T.f_law_gcd T.fd_law_gcd ["_law_one", "_law_other"] spLGcd := by
  refine T.F_law_gcd.ok sc_law_gcd (fun vs H Q E h => ?_) (fun cdv A outer s H vs Q E hr h => ?_)
  · obtain ⟨t, b, rfl, _⟩ := h
    rfl
  · obtain ⟨t, b, rfl, q⟩ := h
    refine ⟨_, (PSs.nox (pss_cons (ps_par (i := 0) (j := 1) (by rfl) sc_law_gcd.nd rfl rfl (by decide) rfl rfl (pa_cons (pe_callB call_abs (by rfl) T.z_abs (by decide +kernel) (pa_cons (pv 0) pa_nil)) (pa_cons (pe_callB call_abs (by rfl) T.z_abs (by decide +kernel) (pa_cons (pv 1) pa_nil)) pa_nil)) (by rfl))
    (pss_cons (ps_while PassesOwn.never (pt_cmpR op_gt (pv 1) pe_int (nomark _))
      (pss_one (ps_par (i := 0) (j := 1) (by rfl) sc_law_gcd.nd rfl rfl (by decide) rfl rfl (pa_cons (pv 1) (pa_cons (pe_op op_mod (pe_callTy call_int1 (by rfl) T.z_int (by decide +kernel) (pa_cons (pv 0) pa_nil)) (pv 1)) pa_nil)) (by rfl))))
    (pss_one (ps_ret (pv 0)))))), ?_⟩
    refine ⟨_, rfl, t, rfl, _, rfl, b, rfl, _, _, rfl, ?_⟩
    rw [abs_nat, abs_nat]
    refine while_by (fun σ H' => ∃ x y : Nat, σ = [some (.int x), some (.int y)] ∧ Nat.gcd x y = Nat.gcd t.natAbs b.natAbs ∧ H' = H) (fun σ _ => yOf σ) ⟨_, _, rfl, rfl, rfl⟩ (fun σ H' hP => ?_) (fun σ H' Q1 Q2 hQ h => ?_)
    · obtain ⟨x, y, rfl, hg, rfl⟩ := hP
      refine ⟨_, rfl, _, _, rfl, rfl, _, rfl, ?_⟩
      by_cases c : 0 < (y : Int)
      · rw [decide_eq_true c]
        refine iteT ⟨_, rfl, _, rfl, .inl ⟨_, rfl, _, rfl, _, _, rfl, rfl, c, _, _, rfl, ?_⟩⟩
        have e : (x : Int) % (y : Int) = ((x % y : Nat) : Int) := (Int.natCast_emod x y).symm
        refine ⟨⟨y, x % y, ?_, ?_, rfl⟩, ?_⟩
        · show [some (V.int y), some (V.int ((x : Int) % (y : Int)))] = _
          rw [e]
        · rw [← hg, Nat.gcd_comm x y, Nat.gcd_rec y x, Nat.gcd_comm]
        · show ((x : Int) % (y : Int)).toNat < (y : Int).toNat
          rw [e]
          have := Nat.mod_lt x (show y > 0 by omega)
          omega
      · rw [decide_eq_false c]
        have ey : y = 0 := by omega
        subst ey
        refine iteF ⟨_, rfl, ?_⟩
        rw [← hg, Nat.gcd_zero_right] at q
        exact q
    · obtain ⟨v, e, x1, x2, e1, e2, k, e3, h⟩ := h
      exact ⟨v, e, x1, x2, e1, e2, k, e3, hQ _ _ h⟩
def spRight : Sp := fun vs H Q _ => ∃ a : Addr, vs = [.ref a] ∧ Dc H a ∧ ∀ H', Sx a H H' → Dc H' a → Q (.bl true) H'
end
end K52

set_option Elab.async false
set_option linter.all false
set_option maxRecDepth 100000
set_option maxHeartbeats 4000000
namespace K52
open PySem PySem.Spec PyProof.Rows L2 StX RZ MyR SlX OwnR OwnF
theorem cont_snoc (x : Int) : ∀ l : List Int, cont (l ++ [x]) = Nat.gcd (cont l) x.natAbs
  | [] => by
    show Nat.gcd x.natAbs 0 = Nat.gcd 0 x.natAbs
    rw [Nat.gcd_zero_right, Nat.gcd_zero_left]
  | y :: ys => by
    show Nat.gcd y.natAbs (cont (ys ++ [x])) = Nat.gcd (Nat.gcd y.natAbs (cont ys)) x.natAbs
    rw [cont_snoc x ys, Nat.gcd_assoc]
theorem take_snoc {xs : List Int} {i : Nat} (h : i < xs.length) : xs.take (i + 1) = xs.take i ++ [co xs i] := by
  rw [List.take_add_one, List.getElem?_eq_getElem h, co_get h]
  rfl
theorem int_get {xs : List Int} {i : Nat} {x : V} (h : (xs.map V.int)[i]? = some x) : i < xs.length ∧ x = .int (co xs i) := by
  have hi : i < xs.length := by
    have := (List.getElem?_eq_some_iff.mp h).1
    rw [List.length_map] at this
    exact this
  rw [get_int hi] at h
  cases h
  exact ⟨hi, rfl⟩
theorem tab_snoc (n : Nat) (f : Nat → Int) : tab n f ++ [V.int (f n)] = tab (n + 1) f := by
  unfold tab
  rw [List.range_succ, List.map_append]
  rfl
theorem zs_tb {c : Int} {xs ys : List Int} (hl : xs.length = ys.length) : (tb xs.length fun k => co xs k + c * co ys k) = zs c xs ys := by
  refine co_inj (by rw [tb_len]; unfold zs; rw [List.length_zipWith, hl, Nat.min_self]) fun k => ?_
  rw [co_tb]
  unfold zs
  by_cases hk : k < xs.length
  · rw [if_pos hk, co_get (l := List.zipWith _ _ _) (by rw [List.length_zipWith]; omega), List.getElem_zipWith, co_get hk, co_get (by omega)]
  · rw [if_neg hk, co_far (by rw [List.length_zipWith]; omega)]
section
variable {P : Program} {w : World} {K : PySem.W.Frag} {mg : Str → Option Value} {base : Heap}
def spShared : Sp := fun vs H Q _ => ∃ (t : Addr) (ns : List Int), vs = [.ref t] ∧ H t = some (tp ns) ∧ Q (.int (cont ns : Nat)) H
theorem ok_law_shared (T : Facts K mg) : FnOk P w K mg base CX0 2 T.f_law_shared T.fd_law_shared ["_law_numbers"] spShared := by
  have G_law_gcd : FnOk P w K mg base CX0 1 T.f_law_gcd T.fd_law_gcd ["_law_one", "_law_other"] spLGcd := ok_law_gcd T
  refine T.F_law_shared.ok sc_law_shared (fun vs H Q E h => ?_) (fun cdv A outer s H vs Q E hr h => ?_)
  · obtain ⟨t, ns, rfl, _⟩ := h
    rfl
  · obtain ⟨t, ns, rfl, ht, q⟩ := h
    refine ⟨_, (PSs.nox (pss_cons (ps_set (i := 1) sc_law_shared.nd rfl (.inl rfl) pe_int)
    (pss_cons (ps_for PassesOwn.never (by rfl) (pi_tup (pv 0)) (pg_name (i := 2) sc_law_shared.nd rfl (.inl rfl))
      (pss_one (ps_set (i := 1) sc_law_shared.nd rfl (.inl rfl) (pe_call G_law_gcd hr (by rfl) T.g_law_gcd T.F_law_gcd.kp T.b_law_gcd .nil pass0 (pa_cons (pv 1) (pa_cons (pv 2) pa_nil))))))
    (pss_one (ps_ret (pv 1)))))), ?_⟩
    refine ⟨_, rfl, t, rfl, ⟨_, SqT.of ht⟩, for_tup (xs := ns.map V.int) (fun i σ H' => ∃ y, σ = [some (.ref t), some (.int ((cont (ns.take i) : Nat) : Int)), y] ∧ H' = H) ⟨none, rfl, rfl⟩ (fun i σ H' _ hP => by rw [hP.choose_spec.2]; exact SqT.of ht) (fun i x σ H' hx hP => ?_) (fun σ H' hP => ?_)⟩
    · obtain ⟨y, rfl, rfl⟩ := hP
      obtain ⟨hi, rfl⟩ := int_get hx
      refine ⟨_, rfl, _, rfl, _, _, rfl, some (.int (co ns i)), ?_, rfl⟩
      rw [take_snoc hi, cont_snoc]
      rfl
    · obtain ⟨y, rfl, rfl⟩ := hP
      rw [List.length_map, List.take_length]
      exact ⟨_, rfl, q⟩
def spPlus : Sp := fun vs H Q _ => ∃ (t u : Addr) (xs ys : List Int), vs = [.ref t, .ref u] ∧ H t = some (tp xs) ∧ H u = some (tp ys) ∧ xs.length = ys.length ∧ xs.length ≤ 100 ∧ ∀ p H', Same H H' → H p = none → H' p = some (tp (zs 1 xs ys)) → Q (.ref p) H'
theorem ok_law_plus (T : Facts K mg) : FnOk P w K mg base CX0 1 T.f_law_plus T.fd_law_plus ["_law_one", "_law_other"] spPlus := by
  refine T.F_law_plus.ok sc_law_plus (fun vs H Q E h => ?_) (fun cdv A outer s H vs Q E hr h => ?_)
  · obtain ⟨t, u, xs, ys, rfl, _⟩ := h
    rfl
  · obtain ⟨t, u, xs, ys, rfl, ht, hu, hl, hlt, q⟩ := h
    refine ⟨_, (PSs.nox (pss_one (ps_ret (pe_tupleOf (by rfl) T.z_tuple (pe_lc (own := [("_law_first", 2), ("_law_second", 3)]) (g := (gTup K 2 (gCons (gName 2) (gCons (gName 3) gNil)))) (tt := tYes) (by rfl) sc_law_plus.nd (pi_zipA (by rfl) T.z_zip (pa_cons (pv 0) (pa_cons (pv 1) pa_nil))) (blkOk_by (N := N_law_plus) (sc := defScope s_law_plus) (by decide +kernel)) (fun _ _ _ _ _ => (pg_tup (by rfl) (pgs_cons (pg_name (i := 2) sc_law_plus.nd rfl (.inl rfl)) (pgs_cons (pg_name (i := 3) sc_law_plus.nd rfl (.inl rfl)) pgs_nil)))) (fun _ _ _ _ _ => pts_nil) (fun _ _ _ _ _ => (pe_op op_add (pv 2) (pv 3)))))))), ?_⟩
    refine ⟨_, rfl, _, rfl, t, u, _, _, rfl, .inr ⟨SqT.of ht, SqT.of hu, fun D hD => ?_⟩⟩
    refine lc_zipT (xs := xs.map V.int) (ys := ys.map V.int) (by rw [List.length_map, List.length_map, hl]) (fun j H' => Same H H' ∧ H' D = some (.lst (tab j fun k => co xs k + 1 * co ys k))) ⟨same_upd0 hD, upd_same⟩ (fun j H' _ hP => ⟨SqT.of (hP.1 _ _ ht), SqT.of (hP.1 _ _ hu)⟩) (fun j x y A H' hx hy hP hA => ?_) (fun H' hP => ?_)
    · obtain ⟨sH, hD'⟩ := hP
      obtain ⟨hj, rfl⟩ := int_get hx
      obtain ⟨_, rfl⟩ := int_get hy
      have sA := same_upd0 (o := .tup [.int (co xs j), .int (co ys j)]) hA
      refine ⟨A, _, rfl, SqT.of upd_same, rfl, _, _, rfl, _, _, rfl, rfl, rfl, _, rfl, _, rfl, _, _, rfl, rfl, _, sA _ _ hD', ?_, fun b o e => ?_, ?_⟩
      · rw [tab_len]
        exact small1000 (by omega)
      · rw [upd_ne (ne_of_none e hD)]
        exact sA _ _ (sH _ _ e)
      · rw [upd_same, ← tab_snoc]
        show some (HO.lst (tab j _ ++ [V.int (co xs j + co ys j)])) = some (HO.lst (tab j _ ++ [V.int (co xs j + 1 * co ys j)]))
        rw [Int.one_mul]
    · obtain ⟨sH, hD'⟩ := hP
      rw [List.length_map] at hD'
      refine .inl ⟨D, _, rfl, SqL.of hD', fun p hp2 => ?_⟩
      refine q p _ (sH.trans (same_upd0 hp2)) (Same.free sH hp2) ?_
      rw [upd_same, tab_tb, zs_tb hl]
def spScaled : Sp := fun vs H Q _ => ∃ (t : Addr) (xs : List Int) (c : Int), vs = [.ref t, .int c] ∧ H t = some (tp xs) ∧ xs.length ≤ 100 ∧ (∀ x ∈ xs, sm x) ∧ sm c ∧ ∀ p H', Same H H' → H p = none → H' p = some (tp (xs.map fun x => c * x)) → Q (.ref p) H'
theorem ok_law_scaled (T : Facts K mg) : FnOk P w K mg base CX0 1 T.f_law_scaled T.fd_law_scaled ["_law_form_here", "_law_factor"] spScaled := by
  refine T.F_law_scaled.ok sc_law_scaled (fun vs H Q E h => ?_) (fun cdv A outer s H vs Q E hr h => ?_)
  · obtain ⟨t, xs, c, rfl, _⟩ := h
    rfl
  · obtain ⟨t, xs, c, rfl, ht, hl, hs, hc, q⟩ := h
    refine ⟨_, (PSs.nox (pss_one (ps_ret (pe_tupleOf (by rfl) T.z_tuple (pe_lc (own := [("_law_entry", 2)]) (g := (gName 2)) (tt := tYes) (by rfl) sc_law_scaled.nd (pi_tup (pv 0)) (blkOk_by (N := N_law_scaled) (sc := defScope s_law_scaled) (by decide +kernel)) (fun _ _ _ _ _ => (pg_name (i := 2) sc_law_scaled.nd rfl (.inl rfl))) (fun _ _ _ _ _ => pts_nil) (fun _ _ _ _ _ => (pe_op op_mulW (pv 1) (pv 2)))))))), ?_⟩
    refine ⟨_, rfl, t, rfl, ⟨_, SqT.of ht⟩, fun D hD => lc_tup (xs := xs.map V.int) (fun j H' => H' = upd H D (.lst (tab j fun k => c * co xs k))) rfl (fun j H' _ hP => ?_) (fun j x H' hx hP => ?_) (fun H' hP => ?_)⟩
    · rw [hP]
      exact SqT.of (same_upd0 hD _ _ ht)
    · subst hP
      obtain ⟨hj, rfl⟩ := int_get hx
      refine ⟨rfl, ⟨_, rfl, _, rfl, _, _, rfl, rfl, sm_mul hc (sm_co hs hj), _, upd_same, ?_, ?_⟩⟩
      · rw [tab_len]
        exact small1000 (by omega)
      · rw [upd_upd, ← tab_snoc]
    · subst hP
      rw [List.length_map, tab_tb, tb_map (fun x => c * x) xs]
      refine .inl ⟨D, _, rfl, SqL.of upd_same, fun p hp2 => ?_⟩
      exact q p _ ((same_upd0 hD).trans (same_upd0 hp2)) (Same.free (same_upd0 hD) hp2) upd_same
end
end K52

set_option Elab.async false
set_option linter.all false
set_option maxRecDepth 100000
set_option maxHeartbeats 4000000
namespace K52
open PySem PySem.Spec PyProof.Rows L2 StX RZ MyR SlX OwnR OwnF EnumT
section
variable {P : Program} {w : World} {K : PySem.W.Frag} {mg : Str → Option Value} {base : Heap}
def spProd : Sp := fun vs H Q _ => ∃ (a b : Addr) (xs ys : List Int), vs = [.ref a, .ref b] ∧ H a = some (tp xs) ∧ H b = some (tp ys) ∧ xs ≠ [] ∧ ys ≠ [] ∧ xs.length ≤ 100 ∧ ys.length ≤ 100 ∧ (∀ x ∈ xs, sm x) ∧ (∀ x ∈ ys, sm x) ∧ ∀ p H', Same H H' → H p = none → H' p = some (tp (ml xs ys)) → Q (.ref p) H'
theorem ok_law_product (T : Facts K mg) : FnOk P w K mg base CX0 1 T.f_law_product T.fd_law_product ["_law_one", "_law_other"] spProd := by
  refine T.F_law_product.ok sc_law_product (fun vs H Q E h => ?_) (fun cdv A outer s H vs Q E hr h => ?_)
  · obtain ⟨a, b, xs, ys, rfl, _⟩ := h
    rfl
  · obtain ⟨a, b, xs, ys, rfl, ha, hb, nx, ny, lx, ly, hx, hy, q⟩ := h
    have px : 0 < xs.length := List.length_pos_iff.mpr nx
    have py : 0 < ys.length := List.length_pos_iff.mpr ny
    refine ⟨_, (PSs.nox (pss_cons (ps_setLc (i := 2) (own := [("_law_place", 3)]) (g := (gName 3)) (tt := tYes) rfl sc_law_product.nd rfl rfl (sw_true rfl rfl rfl (by decide +kernel)) (pi_range1 (by rfl) T.z_range (pa_cons (pe_op op_sub (pe_op op_add (pe_callB call_len_seq (by rfl) T.z_len (by decide +kernel) (pa_cons (pv 0) pa_nil)) (pe_callB call_len_seq (by rfl) T.z_len (by decide +kernel) (pa_cons (pv 1) pa_nil))) pe_int) pa_nil)) (blkOk_by (N := N_law_product) (sc := defScope s_law_product) (by decide +kernel)) (fun _ _ _ _ _ => (pg_name (i := 3) sc_law_product.nd rfl (.inl rfl))) (fun _ _ _ _ _ => pts_nil) (fun _ _ _ _ _ => pe_int))
    (pss_cons (ps_for PassesOwn.never (by rfl) (pi_enumT (by rfl) T.z_enumerate (pa_cons (pv 0) pa_nil)) (pg_tup (by rfl) (pgs_cons (pg_name (i := 4) sc_law_product.nd rfl (.inl rfl)) (pgs_cons (pg_name (i := 5) sc_law_product.nd rfl (.inl rfl)) pgs_nil)))
      (pss_one (ps_for PassesOwn.never (by rfl) (pi_enumT (by rfl) T.z_enumerate (pa_cons (pv 1) pa_nil)) (pg_tup (by rfl) (pgs_cons (pg_name (i := 3) sc_law_product.nd rfl (.inl rfl)) (pgs_cons (pg_name (i := 6) sc_law_product.nd rfl (.inl rfl)) pgs_nil)))
        (pss_one (ps_asg (pe_op op_add (pe_ix ix_list (pv 2) (pe_op op_add (pv 4) (pv 3)) (fun _ _ => rfl)) (pe_op op_mulW (pv 5) (pv 6))) (pg_sub (pv 2) (pe_op op_add (pv 4) (pv 3)) set_list))))))
    (pss_one (ps_ret (pe_tupleOf (by rfl) T.z_tuple (pv 2))))))), ?_⟩
    refine ⟨_, rfl, a, _, rfl, .inr (SqT.of ha), _, rfl, b, _, rfl, .inr (SqT.of hb), ?_⟩
    rw [List.length_map, List.length_map]
    obtain ⟨N, hN⟩ : ∃ N, N = xs.length + ys.length - 1 := ⟨_, rfl⟩
    have eN : (((xs.length : Int) + (ys.length : Int) - 1)).toNat = N := by omega
    refine ⟨_, _, rfl, rfl, _, _, rfl, rfl, _, rfl, (by show -(2 ^ 62) ≤ (xs.length : Int) + (ys.length : Int) - 1; omega), (by show (xs.length : Int) + (ys.length : Int) - 1 < 2 ^ 62; omega), fun D hD => lc_range (n := _) (fun j H' => H' = upd H D (.lst (List.replicate j (V.int 0)))) rfl (fun j H' hj hP => ?_) (fun H' hP => ?_)⟩
    · subst hP
      have hj2 : j < N := by rw [← eN]; exact hj
      refine ⟨rfl, ⟨_, upd_same, ?_, ?_⟩⟩
      · rw [List.length_replicate]
        exact small1000 (by omega)
      · rw [upd_upd, List.replicate_succ']
    · subst hP
      show _
      rw [show List.replicate (((xs.length : Int) + (ys.length : Int) - 1)).toNat (V.int 0) = tab N (fun k => cv (xs.take 0) (co ys) k) by rw [eN, tab_rep]; rfl]
      have sD : ∀ o, Same H (upd H D o) := fun o => same_upd0 hD
      -- what stands in each turn: the list at D, and what stood before
      refine ⟨_, rfl, a, _, rfl, SqT.of (sD _ _ _ ha), for_enumT (xs := xs.map V.int) (fun i σ H' => ∃ y3 y4 y5 y6, σ = [some (.ref a), some (.ref b), some (.ref D), y3, y4, y5, y6] ∧ Same H H' ∧ H' D = some (.lst (tab N fun k => cv (xs.take i) (co ys) k))) ⟨none, none, none, none, rfl, sD _, upd_same⟩ (fun i σ H' hP => ?_) (fun i x B σ H' hxi hP hB => ?_) (fun σ H' hP => ?_)⟩
      · obtain ⟨y3, y4, y5, y6, _, sH, _⟩ := hP
        exact SqT.of (sH _ _ ha)
      · obtain ⟨y3, y4, y5, y6, rfl, sH, hL⟩ := hP
        obtain ⟨hi2, rfl⟩ := int_get hxi
        refine ⟨B, _, rfl, SqT.of upd_same, rfl, _, _, rfl, _, _, rfl, rfl, ?_⟩
        refine gen_upd H' B _ hB (fun H2 s2 _ => ?_)
        have sH2 := sH.trans s2
        have hL2 := s2 _ _ hL
        rw [tab_ext (g := J xs (co ys) i 0) fun k hk => J_0.symm] at hL2
        refine ⟨_, rfl, b, _, rfl, SqT.of (sH2 _ _ hb), for_enumT (xs := ys.map V.int) (fun j σ H3 => ∃ y3 y6, σ = [some (.ref a), some (.ref b), some (.ref D), y3, some (.int ((i : Nat) : Int)), some (.int (co xs i)), y6] ∧ Same H H3 ∧ H3 D = some (.lst (tab N (J xs (co ys) i j)))) ⟨y3, y6, rfl, sH2, hL2⟩ (fun j σ H3 hP => ?_) (fun j y B2 σ H3 hyj hP hB2 => ?_) (fun σ H3 hP => ?_)⟩
        · obtain ⟨y3, y6, _, sH3, _⟩ := hP
          exact SqT.of (sH3 _ _ hb)
        · obtain ⟨y3, y6, rfl, sH3, hL3⟩ := hP
          obtain ⟨hj2, rfl⟩ := int_get hyj
          refine ⟨B2, _, rfl, SqT.of upd_same, rfl, _, _, rfl, _, _, rfl, rfl, ?_⟩
          refine gen_upd H3 B2 _ hB2 (fun H4 s4 _ => ?_)
          have sH4 := sH3.trans s4
          have hL4 := s4 _ _ hL3
          have e1 : ((i : Nat) : Int) + ((j : Nat) : Int) = ((i + j : Nat) : Int) := by omega
          refine ⟨_, rfl, _, rfl, _, rfl, _, _, rfl, rfl, D, _, _, _, rfl, rfl, SqL.of hL4, at_of e1 (tab_get (by omega)), _, rfl, _, rfl, _, _, rfl, rfl, sm_mul (sm_co hx hi2) (sm_co hy hj2), _, _, rfl, rfl, ?_⟩
          refine ⟨_, rfl, _, rfl, _, rfl, _, _, rfl, rfl, D, _, _, (i + j), rfl, rfl, hL4, ?_, ?_⟩
          · rw [tab_len]
            exact ix_at e1 (by omega)
          · refine ⟨_, _, rfl, fun c o e => ?_, ?_⟩
            · rw [upd_ne (ne_of_none e hD)]
              exact sH4 _ _ e
            · rw [upd_same]
              show some (HO.lst ((tab N (J xs (co ys) i j)).set (i + j) (.int (J xs (co ys) i j (i + j) + co xs i * co ys j)))) = _
              rw [tab_set, tab_ext fun k hk => J_step]
        · obtain ⟨y3, y6, rfl, sH3, hL3⟩ := hP
          rw [List.length_map, tab_ext fun k hk => J_end hi2] at hL3
          exact ⟨_, _, _, _, rfl, sH3, hL3⟩
      · obtain ⟨y3, y4, y5, y6, rfl, sH, hL⟩ := hP
        rw [List.length_map, List.take_length, tab_tb] at hL
        refine ⟨_, rfl, .inl ⟨D, _, rfl, SqL.of hL, fun p hp => ?_⟩⟩
        refine q p _ (sH.trans (same_upd0 hp)) (Same.free sH hp) ?_
        rw [upd_same, hN]
        rfl
/-- the product of the first n -/
def pow (l : List Int) : Nat → List Int
  | 0 => [1]
  | n + 1 => ml (pow l n) l
def spPow : Sp := fun vs H Q _ => ∃ (a : Addr) (xs : List Int) (n : Nat), vs = [.ref a, .int n] ∧ H a = some (tp xs) ∧ xs ≠ [] ∧ xs.length ≤ 100 ∧ (∀ x ∈ xs, sm x) ∧ (∀ i, i < n → pow xs i ≠ [] ∧ (pow xs i).length ≤ 100 ∧ ∀ x ∈ pow xs i, sm x) ∧ n ≤ 100 ∧ ∀ p H', Same H H' → H' p = some (tp (pow xs n)) → Q (.ref p) H'
theorem ok_law_power (T : Facts K mg) : FnOk P w K mg base CX0 2 T.f_law_power T.fd_law_power ["_law_pair", "_law_times"] spPow := by
  have G_law_product : FnOk P w K mg base CX0 1 T.f_law_product T.fd_law_product ["_law_one", "_law_other"] spProd := ok_law_product T
  refine T.F_law_power.ok sc_law_power (fun vs H Q E h => ?_) (fun cdv A outer s H vs Q E hr h => ?_)
  · obtain ⟨a, xs, n, rfl, _⟩ := h
    rfl
  · obtain ⟨a, xs, n, rfl, ha, nx, lx, hx, hp, hn, q⟩ := h
    refine ⟨_, (PSs.nox (pss_cons (ps_set (i := 2) sc_law_power.nd rfl (.inl rfl) (pe_tup (pa_cons pe_int pa_nil)))
    (pss_cons (ps_for PassesOwn.never (by rfl) (pi_range1 (by rfl) T.z_range (pa_cons (pv 1) pa_nil)) (pg_name (i := 3) sc_law_power.nd rfl (.inl rfl))
      (pss_one (ps_set (i := 2) sc_law_power.nd rfl (.inl rfl) (pe_call G_law_product hr (by rfl) T.g_law_product T.F_law_product.kp T.b_law_product .nil pass0 (pa_cons (pv 2) (pa_cons (pv 0) pa_nil))))))
    (pss_one (ps_ret (pv 2)))))), ?_⟩
    refine ⟨(by show 1 ≤ sizeLine; decide), fun p0 n0 => ⟨_, rfl, n, rfl, by omega, by omega, for_range (n := (n : Int).toNat) (fun i σ H' => ∃ r y3, σ = [some (.ref a), some (.int n), some (.ref r), y3] ∧ Same H H' ∧ H' r = some (tp (pow xs i))) ⟨p0, none, rfl, same_upd0 n0, upd_same⟩ (fun i σ H' hi hP => ?_) (fun σ H' hP => ?_)⟩⟩
    · obtain ⟨r, y3, rfl, sH, hr2⟩ := hP
      obtain ⟨h1, h2, h3⟩ := hp i (by omega)
      exact ⟨_, rfl, _, rfl, r, a, _, xs, rfl, hr2, sH _ _ ha, h1, nx, h2, lx, h3, hx, fun p H2 s2 _ hp2 => ⟨p, _, rfl, sH.trans s2, hp2⟩⟩
    · obtain ⟨r, y3, rfl, sH, hr2⟩ := hP
      rw [Int.toNat_natCast] at hr2
      exact ⟨_, rfl, q r H' sH hr2⟩
end
end K52

set_option Elab.async false
set_option linter.all false
set_option maxRecDepth 100000
set_option maxHeartbeats 4000000
namespace K52
open PySem PySem.Spec PyProof.Rows L2 StX RZ MyR SlX OwnR OwnF EnumT
theorem first_of : ∀ ns : List Int, cont ns ≠ 0 → ∃ x r, ns.filter (fun x => x != 0) = x :: r ∧ sg ns = (if 0 < x then 1 else -1)
  | [], h => absurd rfl h
  | y :: ys, h => by
    by_cases c : y = 0
    · have hc : cont ys ≠ 0 := fun e => h (by
        show Nat.gcd y.natAbs (cont ys) = 0
        rw [c, e]
        rfl)
      obtain ⟨x, r, e1, e2⟩ := first_of ys hc
      refine ⟨x, r, ?_, ?_⟩
      · rw [List.filter_cons_of_neg (by rw [c]; decide)]
        exact e1
      · show (if y = 0 then sg ys else _) = _
        rw [if_pos c]
        exact e2
    · refine ⟨y, ys.filter (fun x => x != 0), ?_, ?_⟩
      · rw [List.filter_cons_of_pos (by simpa using c)]
      · show (if y = 0 then sg ys else if 0 < y then 1 else -1) = _
        rw [if_neg c]
section
variable {P : Program} {w : World} {K : PySem.W.Frag} {mg : Str → Option Value} {base : Heap}
theorem ok_law_plain (T : Facts K mg) : FnOk P w K mg base CX0 3 T.f_law_plain T.fd_law_plain ["_law_form_here"] spPrim := by
  have G_law_shared : FnOk P w K mg base CX0 2 T.f_law_shared T.fd_law_shared ["_law_numbers"] spShared := ok_law_shared T
  refine T.F_law_plain.ok sc_law_plain (fun vs H Q E h => ?_) (fun cdv A outer s H vs Q E hr h => ?_)
  · obtain ⟨t, ns, rfl, _⟩ := h
    rfl
  · obtain ⟨t, ns, rfl, ht, hl, hs, q⟩ := h
    refine ⟨_, (PSs.nox (pss_cons (ps_set (i := 1) sc_law_plain.nd rfl (.inr rfl) (pe_call G_law_shared hr (by rfl) T.g_law_shared T.F_law_shared.kp T.b_law_shared .nil pass0 (pa_cons (pv 0) pa_nil)))
    (pss_cons (ps_if (pt_cmpR op_eq (pv 1) pe_int (nomark _))
      (pss_one (ps_ret (pv 0)))
      pss_nil)
    (pss_cons (ps_set (i := 2) sc_law_plain.nd rfl (.inr rfl) (pe_ix ix_list (pe_lc (own := [("_law_entry", 3)]) (g := (gName 3)) (by rfl) sc_law_plain.nd (pi_tup (pv 0)) (blkOk_by (N := N_law_plain) (sc := defScope s_law_plain) (by decide +kernel)) (fun _ _ _ _ _ => (pg_name (i := 3) sc_law_plain.nd rfl (.inl rfl))) (fun _ _ _ _ _ => (pts_one (pt_cmpR op_ne (pv 3) pe_int (nomark _)))) (fun _ _ _ _ _ => (pv 3))) pe_int (fun _ _ => rfl)))
    (pss_one (ps_ret (pe_tupleOf (by rfl) T.z_tuple (pe_lc (own := [("_law_entry", 3)]) (g := (gName 3)) (tt := tYes) (by rfl) sc_law_plain.nd (pi_tup (pv 0)) (blkOk_by (N := N_law_plain) (sc := defScope s_law_plain) (by decide +kernel)) (fun _ _ _ _ _ => (pg_name (i := 3) sc_law_plain.nd rfl (.inl rfl))) (fun _ _ _ _ _ => pts_nil) (fun _ _ _ _ _ => (pe_op op_fdivZ (pv 3) (pe_ifExp (pt_cmpR op_gt (pv 2) pe_int (nomark _)) (pv 1) (pe_op op_sub pe_int (pv 1))))))))))))), ?_⟩
    refine ⟨_, rfl, t, ns, rfl, ht, _, rfl, rfl, _, rfl, ?_⟩
    by_cases c : cont ns = 0
    · rw [decide_eq_true (show V.int ((cont ns : Nat) : Int) = V.int 0 by rw [c]; rfl)]
      refine iteT ⟨_, rfl, q t H (Same.rf H) ?_⟩
      unfold prim
      rw [if_pos (by unfold part; rw [c]; exact Int.zero_mul _)]
      exact ht
    · rw [decide_eq_false fun z => c (Int.natCast_eq_zero.mp (V.int.inj z))]
      obtain ⟨x0, r0, e1, e2⟩ := first_of ns c
      have hpart : part ns = if 0 < x0 then ((cont ns : Nat) : Int) else 0 - ((cont ns : Nat) : Int) := by
        unfold part
        rw [e2]
        split
        · exact Int.mul_one _
        · rw [Int.mul_neg, Int.mul_one, Int.zero_sub]
      have hp0 : part ns ≠ 0 := fun e => c (by rw [← part_abs, e]; rfl)
      have hcd : CDivZ 0 (part ns) := ⟨hp0, Nat.lt_trans (PySem.Flt.log2_lt_of (k := 400) (by decide) (sm_part hs)) (by decide)⟩
      refine iteF ⟨_, rfl, t, rfl, ⟨_, SqT.of ht⟩, fun D hD => lc_tup (xs := ns.map V.int) (fun j H' => Same H H' ∧ H' D = some (.lst (((ns.take j).filter (fun x => x != 0)).map V.int))) ⟨same_upd0 hD, upd_same⟩ (fun j H' _ hP => SqT.of (hP.1 _ _ ht)) (fun j x H' hx hP => ?_) (fun H1 hP => ?_)⟩
      · obtain ⟨sH, hL⟩ := hP
        obtain ⟨hj, rfl⟩ := int_get hx
        refine ⟨rfl, _, rfl, rfl, _, rfl, ?_⟩
        rw [take_snoc hj, List.filter_append]
        by_cases d : co ns j = 0
        · rw [decide_eq_true (show V.int (co ns j) = V.int 0 by rw [d])]
          refine iteF ⟨sH, ?_⟩
          rw [hL, List.filter_cons_of_neg (by rw [d]; decide), List.filter_nil, List.append_nil]
        · rw [decide_eq_false fun z => d (V.int.inj z)]
          refine iteT ⟨_, rfl, _, hL, ?_, fun b o e => ?_, ?_⟩
          · have h1 := List.length_filter_le (fun x => x != 0) (ns.take j)
            rw [List.length_take] at h1
            rw [List.length_map]
            exact small1000 (by omega)
          · rw [upd_ne (ne_of_none e hD)]
            exact sH _ _ e
          · rw [upd_same, List.filter_cons_of_pos (by simpa using d), List.filter_nil, List.map_append]
            rfl
      · obtain ⟨s1, hL⟩ := hP
        rw [List.length_map, List.take_length, e1] at hL
        refine ⟨D, _, _, .int x0, rfl, rfl, SqL.of hL, atI_nat (j := 0) rfl, ?_⟩
        have ht1 := s1 _ _ ht
        refine ⟨_, rfl, t, rfl, ⟨_, SqT.of ht1⟩, fun D2 hD2 => lc_tup (xs := ns.map V.int) (fun j H' => H' = upd H1 D2 (.lst (tab j fun k => (co ns k).fdiv (part ns)))) rfl (fun j H' _ hP => ?_) (fun j x H' hx hP => ?_) (fun H' hP => ?_)⟩
        · rw [hP]
          exact SqT.of (same_upd0 hD2 _ _ ht1)
        · subst hP
          obtain ⟨hj, rfl⟩ := int_get hx
          refine ⟨rfl, _, rfl, _, rfl, x0, 0, rfl, rfl, _, rfl, ?_⟩
          have fin : ∀ v : Int, v = part ns → True := fun _ _ => True.intro
          by_cases d : 0 < x0
          · rw [decide_eq_true d]
            rw [if_pos d] at hpart
            rw [hpart] at hcd
            refine iteT ⟨_, rfl, _, _, rfl, rfl, hcd, _, upd_same, ?_, ?_⟩
            · rw [tab_len]
              exact small1000 (by omega)
            · rw [upd_upd, ← tab_snoc, hpart]
          · rw [decide_eq_false d]
            rw [if_neg d] at hpart
            rw [hpart] at hcd
            refine iteF ⟨_, rfl, _, _, rfl, rfl, _, _, rfl, rfl, hcd, _, upd_same, ?_, ?_⟩
            · rw [tab_len]
              exact small1000 (by omega)
            · rw [upd_upd, ← tab_snoc, hpart]
        · subst hP
          rw [List.length_map, tab_tb, tb_map (fun x => x.fdiv (part ns)) ns]
          refine .inl ⟨D2, _, rfl, SqL.of upd_same, fun p hp2 => ?_⟩
          refine q p _ (s1.trans ((same_upd0 hD2).trans (same_upd0 hp2))) ?_
          rw [upd_same]
          unfold prim
          rw [if_neg hp0]
end
end K52

set_option Elab.async false
set_option linter.all false
set_option maxRecDepth 100000
set_option maxHeartbeats 4000000
namespace K52
open PySem PySem.Spec PyProof.Rows L2 StX RZ MyR SlX OwnR OwnF EnumT
theorem prim_len (l : List Int) : (prim l).length = l.length := by
  unfold prim
  split
  · rfl
  · rw [List.length_map]
theorem prim_mem {l : List Int} {b : Nat} (h : ∀ x ∈ l, x.natAbs ≤ b) : ∀ x ∈ prim l, x.natAbs ≤ b := by
  intro x hx
  unfold prim at hx
  by_cases c : part l = 0
  · rw [if_pos c] at hx
    exact h x hx
  · rw [if_neg c] at hx
    obtain ⟨y, hy, rfl⟩ := List.mem_map.mp hx
    have hd : part l ∣ y := Int.natAbs_dvd_natAbs.mp (by rw [part_abs]; exact Int.natAbs_dvd_natAbs.mpr (cont_dvd l y hy))
    obtain ⟨k, rfl⟩ := hd
    show ((part l * k).fdiv (part l)).natAbs ≤ b
    rw [Int.mul_fdiv_cancel_left _ c]
    refine Nat.le_trans ?_ (h _ hy)
    rw [Int.natAbs_mul]
    exact Nat.le_mul_of_pos_left _ (Int.natAbs_pos.mpr c)
section
variable {P : Program} {w : World} {K : PySem.W.Frag} {mg : Str → Option Value} {base : Heap}
theorem dc_ne {H : Hp} {d p : Addr} {xs : List V} (hd : Dc H d) (hp : H p = some (.tup xs)) : p ≠ d := fun e => by
  obtain ⟨x, y, z, h⟩ := hd
  rw [e, h] at hp
  cases hp
def spLine : Sp := fun vs H Q _ => ∃ (t : Addr) (u v : Int), vs = [.ref t] ∧ H t = some (tp [u, v]) ∧ ∀ p, H p = none → Q (.ref p) (upd H p (tp [v, 0 - u]))
theorem ok_law_line (T : Facts K mg) : FnOk P w K mg base CX0 1 T.f_law_line T.fd_law_line ["_law_point_here"] spLine := by
  refine T.F_law_line.ok sc_law_line (fun vs H Q E h => ?_) (fun cdv A outer s H vs Q E hr h => ?_)
  · obtain ⟨t, u, v, rfl, _⟩ := h
    rfl
  · obtain ⟨t, u, v, rfl, ht, q⟩ := h
    refine ⟨_, (PSs.nox (pss_one (ps_ret (pe_tup (pa_cons (pe_ix ix_tup (pv 0) pe_int (fun _ _ => rfl)) (pa_cons (pe_op op_sub pe_int (pe_ix ix_tup (pv 0) pe_int (fun _ _ => rfl))) pa_nil)))))), ?_⟩
    exact ⟨_, rfl, t, _, 1, _, rfl, rfl, SqT.of ht, atI_nat (j := 1) rfl, _, rfl, t, _, 0, _, rfl, rfl, SqT.of ht, atI_nat (j := 0) rfl, _, _, rfl, rfl, (by show 2 ≤ sizeLine; decide), fun p hp => q p hp⟩
/-- a drawn point -/
def spPoint : Sp := fun vs H Q _ => ∃ (d : Addr) (m : Nat), vs = [.ref d, .int m] ∧ Dc H d ∧ 1 ≤ m ∧ m ≤ 1000 ∧ ∀ p H' u v, Sx d H H' → Dc H' d → H' p = some (tp [u, v]) → u.natAbs ≤ m → v.natAbs ≤ m → Q (.ref p) H'
theorem ok_law_point (T : Facts K mg) : FnOk P w K mg base CX0 4 T.f_law_point T.fd_law_point ["_law_dice_here", "_law_most"] spPoint := by
  have G_law_near : FnOk P w K mg base CX0 2 T.f_law_near T.fd_law_near ["_law_dice_here", "_law_most"] spNear := ok_law_near T
  have G_law_plain : FnOk P w K mg base CX0 3 T.f_law_plain T.fd_law_plain ["_law_form_here"] spPrim := ok_law_plain T
  refine T.F_law_point.ok sc_law_point (fun vs H Q E h => ?_) (fun cdv A outer s H vs Q E hr h => ?_)
  · obtain ⟨d, m, rfl, _⟩ := h
    rfl
  · obtain ⟨d, m, rfl, hd, h1, h2, q⟩ := h
    refine ⟨_, (PSs.nox (pss_cons (ps_par (i := 2) (j := 3) (by rfl) sc_law_point.nd rfl rfl (by decide) rfl rfl (pa_cons (pe_call G_law_near (hr.mono (by decide)) (by rfl) T.g_law_near T.F_law_near.kp T.b_law_near .nil pass0 (pa_cons (pv 0) (pa_cons (pv 1) pa_nil))) (pa_cons (pe_call G_law_near (hr.mono (by decide)) (by rfl) T.g_law_near T.F_law_near.kp T.b_law_near .nil pass0 (pa_cons (pv 0) (pa_cons (pv 1) pa_nil))) pa_nil)) (by rfl))
    (pss_one (ps_ret (pe_ifExp (pt_cmpR (op_neD (hu64 hr)) (pe_tup (pa_cons (pv 2) (pa_cons (pv 3) pa_nil))) (pe_tup (pa_cons pe_int (pa_cons pe_int pa_nil))) (nomark _)) (pe_call G_law_plain hr (by rfl) T.g_law_plain T.F_law_plain.kp T.b_law_plain .nil pass0 (pa_cons (pe_tup (pa_cons (pv 2) (pa_cons (pv 3) pa_nil))) pa_nil)) (pe_tup (pa_cons pe_int (pa_cons pe_int pa_nil)))))))), ?_⟩
    have e15 : (10 : Int) ^ 15 = 1000000000000000 := by decide
    have z2 : 2 ≤ sizeLine := by decide
    refine ⟨_, rfl, _, rfl, d, m, rfl, hd, by omega, by rw [e15]; omega, fun u H1 u1 u2 s1 d1 => ⟨_, rfl, _, rfl, d, m, rfl, d1, by omega, by rw [e15]; omega, fun v H2 v1 v2 s2 d2 => ⟨_, _, rfl, ?_⟩⟩⟩
    have s12 := s1.trans s2
    refine ⟨_, rfl, _, rfl, z2, fun p1 n1 => gen_upd H2 p1 (tp [u, v]) n1 fun H3 s3 f3 => ⟨z2, fun p2 n2 => gen_upd H3 p2 (tp [0, 0]) n2 fun H4 s4 f4 => ?_⟩⟩
    refine ne_ints (xs := [u, v]) (ys := [0, 0]) (SqT.of (s4 _ _ f3)) (SqT.of f4) ?_
    have d4 := d2.same (s3.trans s4)
    have s14 : Sx d H H4 := s12.trans (Sx.of (s3.trans s4))
    by_cases c : [u, v] = [0, 0]
    · rw [decide_eq_true c]
      refine ⟨_, rfl, iteF ⟨z2, fun p3 n3 => gen_upd H4 p3 (tp [1, 0]) n3 fun H5 s5 f5 => ?_⟩⟩
      exact q p3 H5 1 0 (s14.trans (Sx.of s5)) (d4.same s5) f5 (by show 1 ≤ m; omega) (by show 0 ≤ m; omega)
    · rw [decide_eq_false c]
      refine ⟨_, rfl, iteT ⟨_, rfl, _, rfl, z2, fun p3 n3 => gen_upd H4 p3 (tp [u, v]) n3 fun H5 s5 f5 => ?_⟩⟩
      have hb : ∀ x ∈ [u, v], x.natAbs ≤ m := fun x hx => by
        simp only [List.mem_cons, List.not_mem_nil, or_false] at hx
        rcases hx with e | e <;> rw [e] <;> omega
      refine ⟨p3, [u, v], rfl, f5, by show 2 ≤ 1000; omega, fun x hx => Nat.lt_of_le_of_lt (hb x hx) (Nat.lt_of_le_of_lt h2 (by decide)), fun p H6 s6 hp => ?_⟩
      have hl := prim_len [u, v]
      have hm := prim_mem hb
      generalize prim [u, v] = r at hp hl hm
      match r, hl with
      | [x, y], _ => exact q p H6 x y (s14.trans (Sx.of (s5.trans s6))) (d4.same (s5.trans s6)) hp (hm x (by simp)) (hm y (by simp))
/-- a drawn form -/
def spSmall : Sp := fun vs H Q _ => ∃ (d : Addr) (n m : Nat), vs = [.ref d, .int n, .int m] ∧ Dc H d ∧ n ≤ 40 ∧ m ≤ 1000000000000 ∧ ∀ p H' l, Sx d H H' → Dc H' d → H' p = some (tp l) → l.length = n + 1 → (∀ x ∈ l, x.natAbs ≤ m) → Q (.ref p) H'
theorem ok_law_small_form (T : Facts K mg) : FnOk P w K mg base CX0 3 T.f_law_small_form T.fd_law_small_form ["_law_dice_here", "_law_degree", "_law_most"] spSmall := by
  have G_law_near : FnOk P w K mg base CX0 2 T.f_law_near T.fd_law_near ["_law_dice_here", "_law_most"] spNear := ok_law_near T
  refine T.F_law_small_form.ok sc_law_small_form (fun vs H Q E h => ?_) (fun cdv A outer s H vs Q E hr h => ?_)
  · obtain ⟨d, n, m, rfl, _⟩ := h
    rfl
  · obtain ⟨d, n, m, rfl, hd, hn, hm, q⟩ := h
    refine ⟨_, (PSs.nox (pss_one (ps_ret (pe_tupleOf (by rfl) T.z_tuple (pe_lc (own := [("_law_place", 3)]) (g := (gName 3)) (tt := tYes) (by rfl) sc_law_small_form.nd (pi_range1 (by rfl) T.z_range (pa_cons (pe_op op_add (pv 1) pe_int) pa_nil)) (blkOk_by (N := N_law_small_form) (sc := defScope s_law_small_form) (by decide +kernel)) (fun _ _ _ _ _ => (pg_name (i := 3) sc_law_small_form.nd rfl (.inl rfl))) (fun _ _ _ _ _ => pts_nil) (fun _ _ _ _ _ => (pe_call G_law_near hr (by rfl) T.g_law_near T.F_law_near.kp T.b_law_near .nil pass0 (pa_cons (pv 0) (pa_cons (pv 2) pa_nil))))))))), ?_⟩
    have e15 : (10 : Int) ^ 15 = 1000000000000000 := by decide
    refine ⟨_, rfl, _, _, rfl, rfl, _, rfl, (by show -(2 ^ 62) ≤ (n : Int) + 1; omega), (by show (n : Int) + 1 < 2 ^ 62; omega), fun D hD => lc_range (n := ((n : Int) + 1).toNat) (fun j H' => Sx d H H' ∧ Dc H' d ∧ ∃ l : List Int, H' D = some (.lst (l.map V.int)) ∧ l.length = j ∧ ∀ x ∈ l, x.natAbs ≤ m) ⟨Sx.of (same_upd0 hD), hd.same (same_upd0 hD), [], upd_same, rfl, fun x hx => by cases hx⟩ (fun j H' hj hP => ?_) (fun H' hP => ?_)⟩
    · obtain ⟨sH, dH, l, hL, hl, hb⟩ := hP
      have nD : D ≠ d := hd.ne hD
      refine ⟨rfl, _, rfl, _, rfl, d, m, rfl, dH, by omega, by rw [e15]; omega, fun r H2 r1 r2 s2 d2 => ⟨_, s2 D _ nD hL, ?_, fun b o hb2 e => ?_, ?_, l ++ [r], ?_, ?_, fun x hx => ?_⟩⟩
      · rw [List.length_map]
        exact small1000 (by omega)
      · rw [upd_ne (ne_of_none e hD)]
        exact (sH.trans s2) b o hb2 e
      · obtain ⟨x, y, z, e⟩ := d2
        exact ⟨x, y, z, by rw [upd_ne (Ne.symm nD)]; exact e⟩
      · rw [upd_same, List.map_append]
        rfl
      · rw [List.length_append, hl]
        rfl
      · rcases List.mem_append.mp hx with e | e
        · exact hb x e
        · rw [List.mem_singleton.mp e]
          omega
    · obtain ⟨sH, dH, l, hL, hl, hb⟩ := hP
      refine .inl ⟨D, _, rfl, SqL.of hL, fun p hp2 => ?_⟩
      exact q p _ l (sH.trans (Sx.of (same_upd0 hp2))) (dH.same (same_upd0 hp2)) upd_same (by omega) hb
end
end K52

set_option Elab.async false
set_option linter.all false
set_option maxRecDepth 100000
/-! how large the entries of products are -/
namespace K52
/-- the sum of the first n absolute values -/
def sN : Nat → (Nat → Int) → Nat
  | 0, _ => 0
  | n + 1, f => sN n f + (f n).natAbs
/-- the sum of the absolute values of the entries -/
def nm (l : List Int) : Nat := (l.map Int.natAbs).sum
theorem sN_add (f g : Nat → Int) : ∀ n, sN n (fun k => f k + g k) ≤ sN n f + sN n g
  | 0 => Nat.le_refl _
  | n + 1 => by
    have h1 := sN_add f g n
    have h2 := Int.natAbs_add_le (f n) (g n)
    show sN n (fun k => f k + g k) + (f n + g n).natAbs ≤ sN n f + (f n).natAbs + (sN n g + (g n).natAbs)
    omega
theorem sN_mul (c : Int) (f : Nat → Int) : ∀ n, sN n (fun k => c * f k) = c.natAbs * sN n f
  | 0 => rfl
  | n + 1 => by
    show sN n (fun k => c * f k) + (c * f n).natAbs = c.natAbs * (sN n f + (f n).natAbs)
    rw [sN_mul c f n, Int.natAbs_mul, Nat.mul_add]
theorem sN_sh (f : Nat → Int) : ∀ n, sN n (sh f) ≤ sN n f
  | 0 => Nat.le_refl _
  | 1 => Nat.zero_le _
  | n + 2 => by
    have key : ∀ n, sN (n + 1) (sh f) = sN n f := by
      intro n
      induction n with
      | zero => rfl
      | succ n ih =>
        show sN (n + 1) (sh f) + (f n).natAbs = sN n f + (f n).natAbs
        rw [ih]
    rw [key]
    exact Nat.le_add_right _ _
theorem sN_cv (g : Nat → Int) (n : Nat) : ∀ l : List Int, sN n (cv l g) ≤ nm l * sN n g
  | [] => by
    have : sN n (cv [] g) = 0 := by
      induction n with
      | zero => rfl
      | succ n ih => show sN n (cv [] g) + (0 : Int).natAbs = 0; rw [ih]; rfl
    omega
  | x :: xs => by
    have h1 := sN_cv g n xs
    have e : sN n (cv (x :: xs) g) = sN n (fun k => x * g k + sh (cv xs g) k) := by
      rw [show cv (x :: xs) g = fun k => x * g k + sh (cv xs g) k from funext (cv_cons x xs g)]
    have h2 := sN_add (fun k => x * g k) (sh (cv xs g)) n
    have h3 := sN_sh (cv xs g) n
    rw [e]
    rw [sN_mul] at h2
    show _ ≤ (x.natAbs + nm xs) * sN n g
    rw [Nat.add_mul]
    omega
theorem nm_snoc (l : List Int) (x : Int) : nm (l ++ [x]) = nm l + x.natAbs := by
  unfold nm
  rw [List.map_append, List.sum_append]
  simp
theorem nm_tb (f : Nat → Int) : ∀ n, nm (tb n f) = sN n f
  | 0 => rfl
  | n + 1 => by
    have e : tb (n + 1) f = tb n f ++ [f n] := by
      unfold tb
      rw [List.range_succ, List.map_append]
      rfl
    rw [e, nm_snoc, nm_tb f n]
    rfl
theorem nm_mem : ∀ {l : List Int} {x : Int}, x ∈ l → x.natAbs ≤ nm l
  | y :: ys, x, h => by
    show x.natAbs ≤ y.natAbs + nm ys
    rcases List.mem_cons.mp h with e | e
    · rw [e]; omega
    · have := nm_mem e; omega
theorem sN_co (l : List Int) (n : Nat) : sN n (co l) ≤ nm l := by
  by_cases h : n ≤ l.length
  · have mono : ∀ k, sN n (co l) ≤ sN (n + k) (co l) := by
      intro k
      induction k with
      | zero => exact Nat.le_refl _
      | succ k ih => exact Nat.le_trans ih (Nat.le_add_right _ _)
    have h1 := mono (l.length - n)
    rw [show n + (l.length - n) = l.length by omega] at h1
    rw [← nm_tb (co l) l.length, tb_co] at h1
    exact h1
  · have far : ∀ k, sN (l.length + k) (co l) = sN l.length (co l) := by
      intro k
      induction k with
      | zero => rfl
      | succ k ih =>
        show sN (l.length + k) (co l) + (co l (l.length + k)).natAbs = _
        rw [ih, co_far (by omega)]
        rfl
    have h1 := far (n - l.length)
    rw [show l.length + (n - l.length) = n by omega] at h1
    rw [h1, ← nm_tb (co l) l.length, tb_co]
    exact Nat.le_refl _
theorem nm_ml (l m : List Int) : nm (ml l m) ≤ nm l * nm m := by
  unfold ml
  rw [nm_tb]
  exact Nat.le_trans (sN_cv _ _ l) (Nat.mul_le_mul (Nat.le_refl _) (sN_co m _))
theorem nm_pl : ∀ (l m : List Int), nm (pl l m) ≤ nm l + nm m
  | [], _ => Nat.zero_le _
  | _ :: _, [] => Nat.zero_le _
  | x :: xs, y :: ys => by
    have h1 := nm_pl xs ys
    have h2 := Int.natAbs_add_le x y
    show (x + y).natAbs + nm (pl xs ys) ≤ x.natAbs + nm xs + (y.natAbs + nm ys)
    omega
theorem nm_scale (c : Int) : ∀ l : List Int, nm (l.map (c * ·)) = c.natAbs * nm l
  | [] => rfl
  | x :: xs => by
    show (c * x).natAbs + nm (xs.map (c * ·)) = c.natAbs * (x.natAbs + nm xs)
    rw [nm_scale c xs, Int.natAbs_mul, Nat.mul_add]
theorem nm_le {b : Nat} : ∀ {l : List Int}, (∀ x ∈ l, x.natAbs ≤ b) → nm l ≤ l.length * b
  | [], _ => Nat.zero_le _
  | x :: xs, h => by
    have h1 := nm_le (l := xs) fun y hy => h y (List.mem_cons_of_mem _ hy)
    have h2 := h x List.mem_cons_self
    show x.natAbs + nm xs ≤ (xs.length + 1) * b
    rw [Nat.succ_mul]
    omega
end K52

set_option Elab.async false
set_option linter.all false
set_option maxRecDepth 100000
set_option maxHeartbeats 4000000
namespace K52
open PySem PySem.Spec PyProof.Rows L2 StX RZ MyR SlX OwnR OwnF EnumT
section
variable {P : Program} {w : World} {K : PySem.W.Frag} {mg : Str → Option Value} {base : Heap}
end
end K52

set_option Elab.async false
set_option linter.all false
set_option maxRecDepth 100000
set_option maxHeartbeats 4000000
namespace K52
open PySem PySem.Spec PyProof.Rows L2 StX RZ MyR SlX OwnR OwnF EnumT
/-- the product of the first i rows -/
def allP (ls : List (List Int)) (i : Nat) : List Int := (ls.take i).foldl ml [1]
theorem allP_succ {ls : List (List Int)} {i : Nat} (h : i < ls.length) : allP ls (i + 1) = ml (allP ls i) ls[i] := by
  unfold allP
  rw [List.take_add_one, List.getElem?_eq_getElem h, List.foldl_append]
  rfl
section
variable {P : Program} {w : World} {K : PySem.W.Frag} {mg : Str → Option Value} {base : Heap}
def spAll : Sp := fun vs H Q _ => ∃ (l : Addr) (rs : List Addr) (ls : List (List Int)), vs = [.ref l] ∧ H l = some (.lst (rs.map V.ref)) ∧ rs.length = ls.length ∧ (∀ i (h : i < ls.length) (h' : i < rs.length), H rs[i] = some (tp ls[i]) ∧ Rw ls[i]) ∧ (∀ i, i < ls.length → Rw (allP ls i)) ∧ ∀ p H', Same H H' → H' p = some (tp (allP ls ls.length)) → Q (.ref p) H'
theorem ok_law_all_product (T : Facts K mg) : FnOk P w K mg base CX0 2 T.f_law_all_product T.fd_law_all_product ["_law_forms"] spAll := by
  have G_law_product : FnOk P w K mg base CX0 1 T.f_law_product T.fd_law_product ["_law_one", "_law_other"] spProd := ok_law_product T
  refine T.F_law_all_product.ok sc_law_all_product (fun vs H Q E h => ?_) (fun cdv A outer s H vs Q E hr h => ?_)
  · obtain ⟨l, rs, ls, rfl, _⟩ := h
    rfl
  · obtain ⟨l, rs, ls, rfl, hl, hlen, hrow, hall, q⟩ := h
    refine ⟨_, (PSs.nox (pss_cons (ps_set (i := 1) sc_law_all_product.nd rfl (.inl rfl) (pe_tup (pa_cons pe_int pa_nil)))
    (pss_cons (ps_for PassesOwn.never (by rfl) (pi_list (pv 0)) (pg_name (i := 2) sc_law_all_product.nd rfl (.inl rfl))
      (pss_one (ps_set (i := 1) sc_law_all_product.nd rfl (.inl rfl) (pe_call G_law_product hr (by rfl) T.g_law_product T.F_law_product.kp T.b_law_product .nil pass0 (pa_cons (pv 1) (pa_cons (pv 2) pa_nil))))))
    (pss_one (ps_ret (pv 1)))))), ?_⟩
    refine ⟨(by show 1 ≤ sizeLine; decide), fun p0 n0 => ⟨_, rfl, l, rfl, ⟨_, SqL.of (same_upd0 n0 _ _ hl)⟩, for_list (xs := rs.map V.ref) (fun i σ H' => ∃ r y, σ = [some (.ref l), some (.ref r), y] ∧ Same H H' ∧ H' r = some (tp (allP ls i))) ⟨p0, none, rfl, same_upd0 n0, upd_same⟩ (fun i σ H' _ hP => ?_) (fun i x σ H' hx hP => ?_) (fun σ H' hP => ?_)⟩⟩
    · obtain ⟨r, y, _, sH, _⟩ := hP
      exact SqL.of (sH _ _ hl)
    · obtain ⟨r, y, rfl, sH, hr2⟩ := hP
      rw [List.getElem?_map] at hx
      obtain ⟨b, hb, rfl⟩ := Option.map_eq_some_iff.mp hx
      obtain ⟨h1, e1⟩ := List.getElem?_eq_some_iff.mp hb
      have h2 : i < ls.length := by omega
      obtain ⟨hb2, rb⟩ := hrow i h2 h1
      rw [e1] at hb2
      have ra := hall i h2
      exact ⟨_, rfl, _, rfl, r, b, _, ls[i], rfl, hr2, sH _ _ hb2, ra.ne, rb.ne, ra.len, rb.len, ra.sm, rb.sm, fun p H2 s2 _ hp2 => ⟨p, _, rfl, sH.trans s2, by rw [allP_succ h2]; exact hp2⟩⟩
    · obtain ⟨r, y, rfl, sH, hr2⟩ := hP
      rw [List.length_map, hlen] at hr2
      exact ⟨_, rfl, q r H' sH hr2⟩
end
end K52

set_option Elab.async false
set_option linter.all false
set_option maxRecDepth 100000
/-! the primitive row of a primitive row -/
namespace K52
end K52

set_option Elab.async false
set_option linter.all false
set_option maxRecDepth 100000
/-! sums of rows, rows of 0 -/
namespace K52
theorem zs_one : ∀ xs ys : List Int, zs 1 xs ys = pl xs ys
  | [], _ => rfl
  | _ :: _, [] => rfl
  | x :: xs, y :: ys => by
    show (x + 1 * y) :: zs 1 xs ys = (x + y) :: pl xs ys
    rw [zs_one xs ys, Int.one_mul]
theorem map_mul_comm (c : Int) (l : List Int) : (l.map fun x => x * c) = l.map fun x => c * x := List.map_congr_left fun x _ => Int.mul_comm x c
end K52

set_option Elab.async false
set_option linter.all false
set_option maxRecDepth 100000
set_option maxHeartbeats 4000000
namespace K52
open PySem PySem.Spec PyProof.Rows L2 StX RZ MyR SlX OwnR OwnF EnumT
/-! ### drawn forms -/
/-- a row of a degree, with its size -/
structure Bd (l : List Int) (n b : Nat) : Prop where
  len : l.length = n + 1
  nm : nm l ≤ b
theorem Bd.ne {l : List Int} {n b : Nat} (h : Bd l n b) : l ≠ [] := fun e => by
  have := h.len
  rw [e] at this
  cases this
theorem Bd.mono {l : List Int} {n b c : Nat} (h : Bd l n b) (k : b ≤ c) : Bd l n c := ⟨h.len, Nat.le_trans h.nm k⟩
theorem Bd.mem {l : List Int} {n b : Nat} (h : Bd l n b) : ∀ x ∈ l, x.natAbs ≤ b := fun x hx => Nat.le_trans (nm_mem hx) h.nm
theorem Bd.rw {l : List Int} {n b : Nat} (h : Bd l n b) (hn : n ≤ 99) (hb : b < 2 ^ 400) : Rw l := ⟨h.ne, by rw [h.len]; omega, fun x hx => Nat.lt_of_le_of_lt (h.mem x hx) hb⟩
theorem bd_ml {l m : List Int} {n k b c : Nat} (h : Bd l n b) (g : Bd m k c) : Bd (ml l m) (n + k) (b * c) :=
  ⟨by rw [ml_len, h.len, g.len]; omega, Nat.le_trans (nm_ml l m) (Nat.mul_le_mul h.nm g.nm)⟩
theorem bd_one : Bd [1] 0 1 := ⟨rfl, Nat.le_refl _⟩
theorem bd_line {u v : Int} {m : Nat} (hu : u.natAbs ≤ m) (hv : v.natAbs ≤ m) : Bd [v, 0 - u] 1 (2 * m) := ⟨rfl, by
  show v.natAbs + ((0 - u).natAbs + 0) ≤ _
  omega⟩
theorem bd_pair {u v : Int} {m : Nat} (hu : u.natAbs ≤ m) (hv : v.natAbs ≤ m) : Bd [u, v] 1 (2 * m) := ⟨rfl, by
  show u.natAbs + (v.natAbs + 0) ≤ _
  omega⟩
theorem bd_small {l : List Int} {n m : Nat} (hl : l.length = n + 1) (h : ∀ x ∈ l, x.natAbs ≤ m) : Bd l n ((n + 1) * m) := ⟨hl, by
  have := nm_le h
  rw [hl] at this
  exact this⟩
theorem bd_pow {l : List Int} {b : Nat} (h : Bd l 1 b) : ∀ i, Bd (pow l i) i (b ^ i)
  | 0 => bd_one
  | i + 1 => by
    rw [Nat.pow_succ]
    exact bd_ml (bd_pow h i) h
theorem bd_all {ls : List (List Int)} {b : Nat} (h : ∀ l ∈ ls, Bd l 1 b) : ∀ i, i ≤ ls.length → Bd (allP ls i) i (b ^ i)
  | 0, _ => bd_one
  | i + 1, hi => by
    rw [Nat.pow_succ, allP_succ hi]
    exact bd_ml (bd_all h i (by omega)) (h _ (List.getElem_mem hi))
theorem bd_zs {l m : List Int} {n b c : Nat} (h : Bd l n b) (g : Bd m n c) : Bd (zs 1 l m) n (b + c) := by
  rw [zs_one]
  exact ⟨by rw [pl_len (by rw [h.len, g.len]), h.len], Nat.le_trans (nm_pl l m) (Nat.add_le_add h.nm g.nm)⟩
theorem bd_scale {l : List Int} {n b d : Nat} {c : Int} (h : Bd l n b) (hc : c.natAbs ≤ d) : Bd (l.map (c * ·)) n (d * b) := ⟨by rw [List.length_map, h.len], by
  rw [nm_scale]
  exact Nat.mul_le_mul hc h.nm⟩
theorem p6 {i : Nat} (h : i ≤ 8) : 6 ^ i ≤ 1679616 := Nat.le_trans (Nat.pow_le_pow_right (by decide) h) (by decide)
theorem iteI {i j : Int} {A B : Prop} (h1 : i = j → A) (h2 : i ≠ j → B) : if decide (V.int i = V.int j) = true then A else B := by
  by_cases h : i = j
  · rw [decide_eq_true (by rw [h])]
    exact iteT (h1 h)
  · rw [decide_eq_false fun z => h (V.int.inj z)]
    exact iteF (h2 h)
section
variable {P : Program} {w : World} {K : PySem.W.Frag} {mg : Str → Option Value} {base : Heap}
def spDrawn : Sp := fun vs H Q _ => ∃ (d : Addr) (n : Nat), vs = [.ref d, .int n] ∧ Dc H d ∧ n ≤ 8 ∧ ∀ p H' l, Sx d H H' → Dc H' d → H' p = some (tp l) → Bd l n (10 ^ 14) → Q (.ref p) H'
theorem ok_law_form (T : Facts K mg) : FnOk P w K mg base CX0 5 T.f_law_form T.fd_law_form ["_law_dice_here", "_law_degree"] spDrawn := by
  have G_law_roll : FnOk P w K mg base CX0 1 T.f_law_roll T.fd_law_roll ["_law_dice_here", "_law_total"] spRoll2 := (ok_law_roll T).imp roll2
  have G_law_near : FnOk P w K mg base CX0 2 T.f_law_near T.fd_law_near ["_law_dice_here", "_law_most"] spNear := ok_law_near T
  have G_law_plus := ok_law_plus (P := P) (w := w) (base := base) T
  have G_law_scaled := ok_law_scaled (P := P) (w := w) (base := base) T
  have G_law_product := ok_law_product (P := P) (w := w) (base := base) T
  have G_law_all_product := ok_law_all_product (P := P) (w := w) (base := base) T
  have G_law_power := ok_law_power (P := P) (w := w) (base := base) T
  have G_law_line := ok_law_line (P := P) (w := w) (base := base) T
  have G_law_point := ok_law_point (P := P) (w := w) (base := base) T
  have G_law_small_form := ok_law_small_form (P := P) (w := w) (base := base) T
  refine T.F_law_form.ok sc_law_form (fun vs H Q E h => ?_) (fun cdv A outer s H vs Q E hr h => ?_)
  · obtain ⟨d, n, rfl, _⟩ := h
    rfl
  · obtain ⟨d, n, rfl, hd, hn, q⟩ := h
    have e15 : (10 : Int) ^ 15 = 1000000000000000 := by decide
    have e14 : (10 : Nat) ^ 14 = 100000000000000 := by decide
    rw [e14] at q
    have lg : ∀ i : Nat, i < 100 → (i : Int).natAbs.log2 < 9000 := fun i hi => Nat.lt_trans (PySem.Flt.log2_lt_of (k := 10) (by decide) (by show i < 2 ^ 10; omega)) (by decide)
    refine ⟨_, (PSs.nox (pss_cons (ps_set (i := 2) sc_law_form.nd rfl (.inl rfl) (pe_call G_law_roll (hr.mono (by decide)) (by rfl) T.g_law_roll T.F_law_roll.kp T.b_law_roll .nil pass0 (pa_cons (pv 0) (pa_cons pe_int pa_nil))))
    (pss_cons (ps_if (pt_cmpR op_eq (pv 2) pe_int (nomark _))
      (pss_one (ps_ret (pe_call G_law_all_product (hr.mono (by decide)) (by rfl) T.g_law_all_product T.F_law_all_product.kp T.b_law_all_product .nil pass0 (pa_cons (pe_lc (own := [("_law_turn", 3)]) (g := (gName 3)) (tt := tYes) (by rfl) sc_law_form.nd (pi_range1 (by rfl) T.z_range (pa_cons (pv 1) pa_nil)) (blkOk_by (N := N_law_form) (sc := defScope s_law_form) (by decide +kernel)) (fun _ _ _ _ _ => (pg_name (i := 3) sc_law_form.nd rfl (.inl rfl))) (fun _ _ _ _ _ => pts_nil) (fun _ _ _ _ _ => (pe_call G_law_line (hr.mono (by decide)) (by rfl) T.g_law_line T.F_law_line.kp T.b_law_line .nil pass0 (pa_cons (pe_call G_law_point hr (by rfl) T.g_law_point T.F_law_point.kp T.b_law_point .nil pass0 (pa_cons (pv 0) (pa_cons pe_int pa_nil))) pa_nil)))) pa_nil))))
      pss_nil)
    (pss_cons (ps_if (pt_cmpR op_eq (pv 2) pe_int (nomark _))
      (pss_cons (ps_par (i := 4) (j := 5) (by rfl) sc_law_form.nd rfl rfl (by decide) rfl rfl (pa_cons (pe_call G_law_line (hr.mono (by decide)) (by rfl) T.g_law_line T.F_law_line.kp T.b_law_line .nil pass0 (pa_cons (pe_call G_law_point hr (by rfl) T.g_law_point T.F_law_point.kp T.b_law_point .nil pass0 (pa_cons (pv 0) (pa_cons pe_int pa_nil))) pa_nil)) (pa_cons (pe_call G_law_roll (hr.mono (by decide)) (by rfl) T.g_law_roll T.F_law_roll.kp T.b_law_roll .nil pass0 (pa_cons (pv 0) (pa_cons (pe_op op_add (pv 1) pe_int) pa_nil))) pa_nil)) (by rfl))
      (pss_one (ps_ret (pe_call G_law_product (hr.mono (by decide)) (by rfl) T.g_law_product T.F_law_product.kp T.b_law_product .nil pass0 (pa_cons (pe_call G_law_power (hr.mono (by decide)) (by rfl) T.g_law_power T.F_law_power.kp T.b_law_power .nil pass0 (pa_cons (pv 4) (pa_cons (pv 5) pa_nil))) (pa_cons (pe_call G_law_small_form (hr.mono (by decide)) (by rfl) T.g_law_small_form T.F_law_small_form.kp T.b_law_small_form .nil pass0 (pa_cons (pv 0) (pa_cons (pe_op op_sub (pv 1) (pv 5)) (pa_cons pe_int pa_nil)))) pa_nil))))))
      pss_nil)
    (pss_cons (ps_if (pt_cmpR op_eq (pv 2) pe_int (nomark _))
      (pss_cons (ps_set (i := 6) sc_law_form.nd rfl (.inl rfl) (pe_tupleOf (by rfl) T.z_tuple (pe_lc (own := [("_law_place", 7)]) (g := (gName 7)) (tt := tYes) (by rfl) sc_law_form.nd (pi_range1 (by rfl) T.z_range (pa_cons (pe_op op_add (pv 1) pe_int) pa_nil)) (blkOk_by (N := N_law_form) (sc := defScope s_law_form) (by decide +kernel)) (fun _ _ _ _ _ => (pg_name (i := 7) sc_law_form.nd rfl (.inl rfl))) (fun _ _ _ _ _ => pts_nil) (fun _ _ _ _ _ => pe_int))))
      (pss_cons (ps_for PassesOwn.never (by rfl) (pi_range1 (by rfl) T.z_range (pa_cons (pe_op op_add pe_int (pe_call G_law_roll (hr.mono (by decide)) (by rfl) T.g_law_roll T.F_law_roll.kp T.b_law_roll .nil pass0 (pa_cons (pv 0) (pa_cons pe_int pa_nil)))) pa_nil)) (pg_name (i := 3) sc_law_form.nd rfl (.inl rfl))
        (pss_one (ps_set (i := 6) sc_law_form.nd rfl (.inl rfl) (pe_call G_law_plus (hr.mono (by decide)) (by rfl) T.g_law_plus T.F_law_plus.kp T.b_law_plus .nil pass0 (pa_cons (pv 6) (pa_cons (pe_call G_law_scaled (hr.mono (by decide)) (by rfl) T.g_law_scaled T.F_law_scaled.kp T.b_law_scaled .nil pass0 (pa_cons (pe_call G_law_power (hr.mono (by decide)) (by rfl) T.g_law_power T.F_law_power.kp T.b_law_power .nil pass0 (pa_cons (pe_call G_law_point hr (by rfl) T.g_law_point T.F_law_point.kp T.b_law_point .nil pass0 (pa_cons (pv 0) (pa_cons pe_int pa_nil))) (pa_cons (pv 1) pa_nil))) (pa_cons (pe_call G_law_near (hr.mono (by decide)) (by rfl) T.g_law_near T.F_law_near.kp T.b_law_near .nil pass0 (pa_cons (pv 0) (pa_cons pe_int pa_nil))) pa_nil))) pa_nil))))))
      (pss_one (ps_ret (pv 6)))))
      pss_nil)
    (pss_cons (ps_if (pt_cmpR op_eq (pv 2) pe_int (nomark _))
      (pss_one (ps_ret (pe_tupleOf (by rfl) T.z_tuple (pe_lc (own := [("_law_place", 7)]) (g := (gName 7)) (tt := tYes) (by rfl) sc_law_form.nd (pi_range1 (by rfl) T.z_range (pa_cons (pe_op op_add (pv 1) pe_int) pa_nil)) (blkOk_by (N := N_law_form) (sc := defScope s_law_form) (by decide +kernel)) (fun _ _ _ _ _ => (pg_name (i := 7) sc_law_form.nd rfl (.inl rfl))) (fun _ _ _ _ _ => pts_nil) (fun _ _ _ _ _ => (pe_op op_mulW (pe_call G_law_near (hr.mono (by decide)) (by rfl) T.g_law_near T.F_law_near.kp T.b_law_near .nil pass0 (pa_cons (pv 0) (pa_cons pe_int pa_nil))) (pe_call G_law_roll (hr.mono (by decide)) (by rfl) T.g_law_roll T.F_law_roll.kp T.b_law_roll .nil pass0 (pa_cons (pv 0) (pa_cons pe_int pa_nil)))))))))
      pss_nil)
    (pss_cons (ps_if (pw_and (pt_cmpR op_eq (pv 2) pe_int (nomark _)) (pw_and1 (pt_cmpR op_eq (pe_call G_law_roll (hr.mono (by decide)) (by rfl) T.g_law_roll T.F_law_roll.kp T.b_law_roll .nil pass0 (pa_cons (pv 0) (pa_cons pe_int pa_nil))) pe_int (nomark _)))).pt
      (pss_one (ps_ret (pe_tupleOf (by rfl) T.z_tuple (pe_lc (own := [("_law_place", 7)]) (g := (gName 7)) (tt := tYes) (by rfl) sc_law_form.nd (pi_range1 (by rfl) T.z_range (pa_cons (pe_op op_add (pv 1) pe_int) pa_nil)) (blkOk_by (N := N_law_form) (sc := defScope s_law_form) (by decide +kernel)) (fun _ _ _ _ _ => (pg_name (i := 7) sc_law_form.nd rfl (.inl rfl))) (fun _ _ _ _ _ => pts_nil) (fun _ _ _ _ _ => (pe_call G_law_near (hr.mono (by decide)) (by rfl) T.g_law_near T.F_law_near.kp T.b_law_near .nil pass0 (pa_cons (pv 0) (pa_cons (pe_op op_pow pe_int pe_int) pa_nil))))))))
      pss_nil)
    (pss_one (ps_ret (pe_call G_law_small_form (hr.mono (by decide)) (by rfl) T.g_law_small_form T.F_law_small_form.kp T.b_law_small_form .nil pass0 (pa_cons (pv 0) (pa_cons (pv 1) (pa_cons pe_int pa_nil))))))))))))), ?_⟩
    refine ⟨_, rfl, d, 6, rfl, hd, by decide, lg 6 (by decide), fun r H1 hr1 s1 d1 => ⟨_, rfl, rfl, _, rfl, iteI (fun _ => ?_) (fun r0 => ⟨_, rfl, rfl, _, rfl, iteI (fun _ => ?_) (fun r1 => ⟨_, rfl, rfl, _, rfl, iteI (fun _ => ?_) (fun r2 => ⟨_, rfl, rfl, _, rfl, iteI (fun _ => ?_) (fun r3 => ?_)⟩)⟩)⟩)⟩⟩
    · -- lines
      refine ⟨_, rfl, n, rfl, by omega, by omega, fun D hD => lc_range (n := (n : Int).toNat) (fun j H' => Sx d H H' ∧ Dc H' d ∧ ∃ (rs : List Addr) (ls : List (List Int)), H' D = some (.lst (rs.map V.ref)) ∧ rs.length = j ∧ ls.length = j ∧ (∀ i (h : i < ls.length) (h' : i < rs.length), H' rs[i] = some (tp ls[i])) ∧ ∀ l ∈ ls, Bd l 1 6) ⟨s1.trans (Sx.of (same_upd0 hD)), d1.same (same_upd0 hD), [], [], upd_same, rfl, rfl, fun i h _ => absurd h (Nat.not_lt_zero i), fun l h => (nomatch h)⟩ (fun j H' hj hP => ?_) (fun H' hP => ?_)⟩
      · obtain ⟨sH, dH, rs, ls, hL, hl1, hl2, hr, hb⟩ := hP
        refine ⟨rfl, _, rfl, d, 3, rfl, dH, by decide, by decide, fun p H2 u v s2 d2 hp hu hv => ⟨p, u, v, rfl, hp, fun p2 n2 => gen_upd H2 p2 _ n2 fun H3 s3 f3 => ?_⟩⟩
        have nD : D ≠ d := d1.ne hD
        have hL3 := s3 _ _ (s2 D _ nD hL)
        have dD : ∀ a l, H3 a = some (tp l) → a ≠ D := fun a l e z => by
          rw [z, hL3] at e
          cases e
        have d3 := d2.same s3
        refine ⟨_, hL3, by rw [List.length_map, hl1]; exact small1000 (by omega), fun b o hb2 e => ?_, ?_, rs ++ [p2], ls ++ [[v, 0 - u]], by rw [upd_same, List.map_append]; rfl, by rw [List.length_append, hl1]; rfl, by rw [List.length_append, hl2]; rfl, fun i h h' => ?_, fun l hl => ?_⟩
        · rw [upd_ne (ne_of_none (s1 b o hb2 e) hD)]
          exact s3 _ _ (s2 b o hb2 (sH b o hb2 e))
        · obtain ⟨x, y, z, e⟩ := d3
          exact ⟨x, y, z, by rw [upd_ne (Ne.symm nD)]; exact e⟩
        · by_cases c : i < ls.length
          · have e1 : (rs ++ [p2])[i] = rs[i]'(by omega) := List.getElem_append_left _
            have e2 : (ls ++ [[v, 0 - u]])[i] = ls[i] := List.getElem_append_left _
            rw [e1, e2]
            have e3 := s3 _ _ (s2 _ _ (dc_ne dH (hr i c (by omega))) (hr i c (by omega)))
            rw [upd_ne (dD _ _ e3)]
            exact e3
          · have ei : i = ls.length := by rw [List.length_append] at h; simp at h; omega
            subst ei
            have e1 : (rs ++ [p2])[ls.length] = p2 := by rw [List.getElem_append_right (by omega)]; simp [hl1, hl2]
            have e2 : (ls ++ [[v, 0 - u]])[ls.length] = [v, 0 - u] := by rw [List.getElem_append_right (by omega)]; simp
            rw [e1, e2, upd_ne (dD _ _ f3)]
            exact f3
        · rcases List.mem_append.mp hl with e | e
          · exact hb l e
          · rw [List.mem_singleton.mp e]
            exact bd_line hu hv
      · obtain ⟨sH, dH, rs, ls, hL, hl1, hl2, hr, hb⟩ := hP
        have hnn : ls.length = n := by omega
        refine ⟨D, rs, ls, rfl, hL, by omega, fun i h h' => ⟨hr i h h', (hb _ (List.getElem_mem h)).rw (by omega) (by decide)⟩, fun i hi => (bd_all hb i (by omega)).rw (by omega) (Nat.lt_of_le_of_lt (p6 (by omega)) (by decide)), fun p H3 s3 f3 => q p H3 _ (sH.trans (Sx.of s3)) (dH.same s3) f3 ?_⟩
        rw [hnn]
        exact (bd_all hb n (by omega)).mono (Nat.le_trans (p6 hn) (by decide))
    · -- a power of a line, times
      refine ⟨_, rfl, d, 3, rfl, d1, by decide, by decide, fun p H2 u v s2 d2 hp hu hv => ⟨p, u, v, rfl, hp, fun p2 n2 => gen_upd H2 p2 _ n2 fun H3 s3 f3 => ⟨_, rfl, _, rfl, _, _, rfl, rfl, ?_⟩⟩⟩
      have d3 := d2.same s3
      refine ⟨d, _, rfl, d3, by omega, lg (n + 1) (by omega), fun k H4 hk s4 d4 => ⟨_, _, rfl, ?_⟩⟩
      have hk' : k ≤ n := by have : (k : Int) < (n : Int) + 1 := hk; omega
      have f4 := s4 _ _ (dc_ne d3 f3) f3
      have bl : Bd [v, 0 - u] 1 6 := bd_line hu hv
      refine ⟨_, rfl, _, rfl, p2, _, k, rfl, f4, bl.ne, by show 2 ≤ 100; decide, fun x hx => (bl.rw (by decide) (Nat.lt_of_lt_of_le (show 6 < 2 ^ 4 by decide) (Nat.pow_le_pow_right (by decide) (by decide)))).sm x hx, fun i hi => ?_, by omega, fun p5 H5 s5 f5 => ?_⟩
      · have := (bd_pow bl i).rw (by omega) (Nat.lt_of_le_of_lt (p6 (by omega)) (by decide))
        exact ⟨this.ne, this.len, this.sm⟩
      · have d5 := d4.same s5
        refine ⟨_, rfl, _, rfl, _, rfl, _, _, rfl, rfl, d, n - k, 4, by show [V.ref d, V.int ((n : Int) - (k : Int)), V.int 4] = [V.ref d, V.int ((n - k : Nat) : Int), V.int 4]; rw [Int.ofNat_sub hk'], d5, by omega, by decide, fun p6' H6 l6 s6 d6 f6 hl6 hm6 => ?_⟩
        have f5' := s6 _ _ (dc_ne d5 f5) f5
        have b1 := bd_pow bl k
        have b2 := bd_small hl6 hm6
        have r1 := b1.rw (by omega) (Nat.lt_of_le_of_lt (p6 (by omega)) (by decide))
        have r2 := b2.rw (by omega) (Nat.lt_of_le_of_lt (show (n - k + 1) * 4 ≤ 36 by omega) (by decide))
        refine ⟨p5, p6', _, l6, rfl, f5', f6, r1.ne, r2.ne, r1.len, r2.len, r1.sm, r2.sm, fun p7 H7 s7 _ f7 => q p7 H7 _ ((((s1.trans s2).trans (Sx.of s3)).trans s4).trans (((Sx.of s5).trans s6).trans (Sx.of s7))) (d6.same s7) f7 ?_⟩
        have b3 := bd_ml b1 b2
        rw [show k + (n - k) = n by omega] at b3
        exact b3.mono (Nat.le_trans (Nat.mul_le_mul (p6 (by omega)) (show (n - k + 1) * 4 ≤ 36 by omega)) (by decide))
    · -- sums of powers
      refine ⟨_, rfl, _, _, rfl, rfl, _, rfl, by show -(2 ^ 62) ≤ (n : Int) + 1; omega, by show (n : Int) + 1 < 2 ^ 62; omega, fun D hD => lc_range (n := ((n : Int) + 1).toNat) (fun j H' => H' = upd H1 D (.lst (tab j fun _ => 0))) rfl (fun j H' hj hP => ?_) (fun H' hP => ?_)⟩
      · subst hP
        refine ⟨rfl, ⟨_, upd_same, by rw [tab_len]; exact small1000 (by omega), ?_⟩⟩
        rw [upd_upd, ← tab_snoc]
      · subst hP
        rw [show ((n : Int) + 1).toNat = n + 1 by omega, tab_tb]
        refine .inl ⟨D, _, rfl, SqL.of upd_same, fun p hp => gen_upd (upd H1 D _) p _ hp fun H2 s2 f2 => ?_⟩
        have s02 := (same_upd0 (o := HO.lst ((tb (n + 1) fun _ => 0).map V.int)) hD).trans s2
        have d2 := d1.same s02
        have b0 : Bd (tb (n + 1) fun _ => 0) n 0 := ⟨tb_len _ _, by
          rw [nm_tb]
          have : ∀ k, sN k (fun _ => 0) = 0 := by
            intro k
            induction k with
            | zero => rfl
            | succ k ih => show sN k (fun _ => 0) + 0 = 0; rw [ih]
          rw [this]
          exact Nat.le_refl _⟩
        refine ⟨_, rfl, d, 3, rfl, d2, by decide, lg 3 (by decide), fun k H3 hk s3 d3 => ⟨_, _, rfl, rfl, _, rfl, by omega, by omega, ?_⟩⟩
        have f3 := s3 _ _ (dc_ne d2 f2) f2
        have hk3 : (k : Int) < 3 := hk
        refine for_range (n := (1 + (k : Int)).toNat) (fun i σ H' => ∃ r y3 y4 y5 y7 l, σ = [some (.ref d), some (.int n), some (.int (r : Int)), y3, y4, y5, some (.ref y7), none] ∧ Sx d H1 H' ∧ Dc H' d ∧ H' y7 = some (tp l) ∧ Bd l n (i * 6718464)) ⟨_, _, _, _, _, _, rfl, (Sx.of s02).trans s3, d3, f3, b0.mono (Nat.zero_le _)⟩ (fun i σ H' hi hP => ?_) (fun σ H' hP => ?_)
        · obtain ⟨r', y3, y4, y5, y7, l, rfl, sH, dH, hl, bl⟩ := hP
          refine ⟨_, rfl, _, rfl, d, 3, rfl, dH, by decide, by decide, fun p4 H4 u v s4 d4 h4 hu hv => ⟨_, rfl, ?_⟩⟩
          have bp : Bd [u, v] 1 6 := bd_pair hu hv
          refine ⟨p4, _, n, rfl, h4, bp.ne, by show 2 ≤ 100; decide, fun x hx => (bp.rw (by decide) (Nat.lt_of_lt_of_le (show 6 < 2 ^ 4 by decide) (Nat.pow_le_pow_right (by decide) (by decide)))).sm x hx, fun i hi => ?_, by omega, fun p5 H5 s5 f5 => ?_⟩
          · have := (bd_pow bp i).rw (by omega) (Nat.lt_of_le_of_lt (p6 (by omega)) (by decide))
            exact ⟨this.ne, this.len, this.sm⟩
          · have d5 := d4.same s5
            have b5 := bd_pow bp n
            have r5 := b5.rw (by omega) (Nat.lt_of_le_of_lt (p6 (by omega)) (by decide))
            refine ⟨_, rfl, d, 4, rfl, d5, by decide, by rw [e15]; decide, fun c H6 c1 c2 s6 d6 => ?_⟩
            have f6 := s6 _ _ (dc_ne d5 f5) f5
            refine ⟨p5, _, c, rfl, f6, r5.len, r5.sm, Nat.lt_of_le_of_lt (show c.natAbs ≤ 4 by omega) (by decide), fun p7 H7 s7 _ f7 => ?_⟩
            have b7 := bd_scale (d := 4) b5 (show c.natAbs ≤ 4 by omega)
            have hl7 := s7 _ _ (s6 _ _ (dc_ne d5 (s5 _ _ (s4 _ _ (dc_ne dH hl) hl))) (s5 _ _ (s4 _ _ (dc_ne dH hl) hl)))
            refine ⟨_, p7, l, _, rfl, hl7, f7, by rw [bl.len, b7.len], by rw [bl.len]; omega, fun p8 H8 s8 _ f8 => ⟨_, _, _, _, p8, _, rfl, ((sH.trans s4).trans ((Sx.of s5).trans s6)).trans ((Sx.of s7).trans (Sx.of s8)), (d6.same s7).same s8, f8, (bd_zs bl b7).mono ?_⟩⟩
            have : 4 * 6 ^ n ≤ 4 * 1679616 := Nat.mul_le_mul (Nat.le_refl _) (p6 hn)
            rw [Nat.succ_mul]
            omega
        · obtain ⟨r', y3, y4, y5, y7, l, rfl, sH, dH, hl, bl⟩ := hP
          exact ⟨_, rfl, q y7 H' l (s1.trans sH) dH hl (bl.mono (by omega))⟩
    · -- some entries, some zeros
      refine ⟨_, rfl, _, _, rfl, rfl, _, rfl, by show -(2 ^ 62) ≤ (n : Int) + 1; omega, by show (n : Int) + 1 < 2 ^ 62; omega, fun D hD => lc_range (n := ((n : Int) + 1).toNat) (fun j H' => Sx d H1 H' ∧ Dc H' d ∧ ∃ l : List Int, H' D = some (.lst (l.map V.int)) ∧ l.length = j ∧ ∀ x ∈ l, x.natAbs ≤ 3) ⟨Sx.of (same_upd0 hD), d1.same (same_upd0 hD), [], upd_same, rfl, fun x hx => by cases hx⟩ (fun j H' hj hP => ?_) (fun H' hP => ?_)⟩
      · obtain ⟨sH, dH, l, hL, hl, hb⟩ := hP
        have nD : D ≠ d := d1.ne hD
        refine ⟨rfl, _, rfl, d, 3, rfl, dH, by decide, by rw [e15]; decide, fun c H2 c1 c2 s2 d2 => ⟨_, rfl, d, 2, rfl, d2, by decide, lg 2 (by decide), fun k H3 hk s3 d3 => ⟨_, _, rfl, rfl, sm_mul (Nat.lt_of_le_of_lt (show c.natAbs ≤ 3 by omega) (by decide)) (Nat.lt_of_le_of_lt (show ((k : Nat) : Int).natAbs ≤ 2 by have : (k : Int) < 2 := hk; omega) (by decide)), _, s3 D _ nD (s2 D _ nD hL), ?_, fun b o hb2 e => ?_, ?_, l ++ [c * (k : Int)], ?_, ?_, fun x hx => ?_⟩⟩⟩
        · rw [List.length_map]
          exact small1000 (by omega)
        · rw [upd_ne (ne_of_none e hD)]
          exact (sH.trans (s2.trans s3)) b o hb2 e
        · obtain ⟨x, y, z, e⟩ := d3
          exact ⟨x, y, z, by rw [upd_ne (Ne.symm nD)]; exact e⟩
        · rw [upd_same, List.map_append]
          rfl
        · rw [List.length_append, hl]
          rfl
        · rcases List.mem_append.mp hx with e | e
          · exact hb x e
          · rw [List.mem_singleton.mp e]
            have hk2 : (k : Int) < 2 := hk
            rw [Int.natAbs_mul]
            have := Nat.mul_le_mul (show c.natAbs ≤ 3 by omega) (show ((k : Nat) : Int).natAbs ≤ 1 by omega)
            omega
      · obtain ⟨sH, dH, l, hL, hl, hb⟩ := hP
        refine .inl ⟨D, _, rfl, SqL.of hL, fun p hp2 => ?_⟩
        exact q p _ l (s1.trans (sH.trans (Sx.of (same_upd0 hp2)))) (dH.same (same_upd0 hp2)) upd_same ((bd_small (n := n) (by omega) hb).mono (Nat.le_trans (Nat.mul_le_mul (show n + 1 ≤ 9 by omega) (Nat.le_refl _)) (by decide)))
    · -- great entries, or small ones
      have small : ∀ H2, Sx d H H2 → Dc H2 d → spSmall [V.ref d, V.int (n : Int), V.int 6] H2 Q E0 := fun H2 s2 d2 => ⟨d, n, 6, rfl, d2, by omega, by decide, fun p H3 l s3 d3 f3 hl hm => q p H3 l (s2.trans s3) d3 f3 ((bd_small hl hm).mono (by omega))⟩
      refine ⟨_, rfl, rfl, _, rfl, iteI (fun _ => ?_) (fun _ => ?_)⟩
      · refine ⟨_, rfl, d, 4, rfl, d1, by decide, lg 4 (by decide), fun k H2 hk s2 d2 => ⟨rfl, _, rfl, iteI (fun _ => ?_) (fun _ => ?_)⟩⟩
        · -- great entries
          refine ⟨_, rfl, _, _, rfl, rfl, _, rfl, by show -(2 ^ 62) ≤ (n : Int) + 1; omega, by show (n : Int) + 1 < 2 ^ 62; omega, fun D hD => lc_range (n := ((n : Int) + 1).toNat) (fun j H' => Sx d H2 H' ∧ Dc H' d ∧ ∃ l : List Int, H' D = some (.lst (l.map V.int)) ∧ l.length = j ∧ ∀ x ∈ l, x.natAbs ≤ 1000000000000) ⟨Sx.of (same_upd0 hD), d2.same (same_upd0 hD), [], upd_same, rfl, fun x hx => by cases hx⟩ (fun j H' hj hP => ?_) (fun H' hP => ?_)⟩
          · obtain ⟨sH, dH, l, hL, hl, hb⟩ := hP
            have nD : D ≠ d := d2.ne hD
            refine ⟨rfl, _, rfl, 10, 12, rfl, rfl, ⟨by decide, by decide, by decide⟩, d, 1000000000000, rfl, dH, by decide, by rw [e15]; decide, fun r H2 r1 r2 s2 d2 => ⟨_, s2 D _ nD hL, ?_, fun b o hb2 e => ?_, ?_, l ++ [r], ?_, ?_, fun x hx => ?_⟩⟩
            · rw [List.length_map]
              exact small1000 (by omega)
            · rw [upd_ne (ne_of_none e hD)]
              exact (sH.trans s2) b o hb2 e
            · obtain ⟨x, y, z, e⟩ := d2
              exact ⟨x, y, z, by rw [upd_ne (Ne.symm nD)]; exact e⟩
            · rw [upd_same, List.map_append]
              rfl
            · rw [List.length_append, hl]
              rfl
            · rcases List.mem_append.mp hx with e | e
              · exact hb x e
              · rw [List.mem_singleton.mp e]
                omega
          · obtain ⟨sH, dH, l, hL, hl, hb⟩ := hP
            refine .inl ⟨D, _, rfl, SqL.of hL, fun p hp2 => ?_⟩
            exact q p _ l ((s1.trans s2).trans (sH.trans (Sx.of (same_upd0 hp2)))) (dH.same (same_upd0 hp2)) upd_same ((bd_small (n := n) (by omega) hb).mono (Nat.le_trans (Nat.mul_le_mul (show n + 1 ≤ 9 by omega) (Nat.le_refl _)) (by decide)))
        · exact ⟨_, rfl, _, rfl, small H2 (s1.trans s2) d2⟩
      · exact ⟨_, rfl, _, rfl, small H1 s1 d1⟩
end
end K52

set_option Elab.async false
set_option linter.all false
set_option maxRecDepth 100000
set_option maxHeartbeats 4000000
namespace K52
open PySem PySem.Spec PyProof.Rows L2 StX RZ MyR SlX OwnR OwnF EnumT
/-! what is said of forms by those who use them (for other laws: K52u, K52v, K52y hold the same) -/
section
variable {P : Program} {w : World} {K : PySem.W.Frag} {mg : Str → Option Value} {base : Heap}
def spLaw (K : PySem.W.Frag) : Sp := fun vs H Q _ => ∃ (a : Addr) (ns : List Int), vs = [.ref a] ∧ SqL K H a (ns.map V.int) ∧ ns.length ≤ 63 ∧ ∀ H', Q (.bl true) H'
/-- what is asked of a told row -/
structure Tr (l : List Int) : Prop where
  ne : l ≠ []
  len : l.length ≤ 40
  sho : ∀ x ∈ l, Sho x
theorem Tr.rw {l : List Int} (h : Tr l) : Rw l := ⟨h.ne, by have := h.len; omega, fun x hx => Nat.lt_trans (h.sho x hx) (by decide)⟩
theorem Tr.pos {l : List Int} (h : Tr l) : 1 ≤ l.length := List.length_pos_iff.mpr h.ne
theorem notFirst_self {K : PySem.W.Frag} {C : Addr} : PySem.W.notFirst K C (.ref C) = true := by
  unfold PySem.W.notFirst
  rw [beq_self_eq_true]
  rfl
/-- Form(t) -/
theorem made_form {C x dx t : Addr} {l : List Int} {H0 H2 : Hp} (hx : H0 x = none) (hdx : H0 dx = none) (hne : dx ≠ x) (s : Same (upd (upd H0 dx (.own x)) x (.ins C dx [])) H2) (ht : H0 t = some (tp l)) : Same H0 (slH H2 x C dx [some (.ref t)]) ∧ Fo C (slH H2 x C dx [some (.ref t)]) x l := by
  have s3 := made (v := .ref t) hx hdx hne s
  refine ⟨s3, dx, t, upd_same, ?_, s3 _ _ ht⟩
  unfold slH
  rw [upd_ne hne, upd_same]
theorem Fo.sx {C a d : Addr} {H H' : Hp} {ns : List Int} (h : Fo C H a ns) (hd : Dc H d) (s : Sx d H H') : Fo C H' a ns := by
  obtain ⟨dx, t, h1, h2, h3⟩ := h
  obtain ⟨x, y, z, e⟩ := hd
  refine ⟨dx, t, s _ _ (fun q => ?_) h1, s _ _ (fun q => ?_) h2, s _ _ (fun q => ?_) h3⟩
  · rw [q, e] at h1
    cases h1
  · rw [q, e] at h2
    cases h2
  · rw [q, e] at h3
    cases h3
/-- a drawn integer, of any size up to fifty digits -/
def spNearB : Sp := fun vs H Q _ => ∃ (a : Addr) (m : Int), vs = [.ref a, .int m] ∧ Dc H a ∧ 0 ≤ m ∧ m ≤ 100000000000000000000 ∧ ∀ r H', -m ≤ r → r ≤ m → Sx a H H' → Dc H' a → Q (.int r) H'
theorem ok_law_nearB (T : Facts K mg) : FnOk P w K mg base CX0 2 T.f_law_near T.fd_law_near ["_law_dice_here", "_law_most"] spNearB := by
  have G_law_roll : FnOk P w K mg base CX0 1 T.f_law_roll T.fd_law_roll ["_law_dice_here", "_law_total"] spRoll2 := (ok_law_roll T).imp roll2
  refine T.F_law_near.ok sc_law_near (fun vs H Q E h => ?_) (fun cdv A outer s H vs Q E hr h => ?_)
  · obtain ⟨a, m, rfl, _⟩ := h
    rfl
  · obtain ⟨a, m, rfl, hd, h0, h1, q⟩ := h
    refine ⟨_, (PSs.nox (pss_one (ps_ret (pe_op op_sub (pe_call G_law_roll hr (by rfl) T.g_law_roll T.F_law_roll.kp T.b_law_roll .nil pass0 (pa_cons (pv 0) (pa_cons (pe_op op_add (pe_op op_mul pe_int (pv 1)) pe_int) pa_nil))) (pv 1))))), ?_⟩
    refine ⟨_, rfl, _, rfl, _, _, rfl, rfl, .inl ⟨by decide, by decide⟩, _, _, rfl, rfl, a, _, rfl, hd, (by show 0 < 2 * m + 1; omega), ?_, fun r H' hr s d => ⟨_, rfl, _, _, rfl, rfl, ?_⟩⟩
    · refine Nat.lt_trans (PySem.Flt.log2_lt_of (k := 80) (by decide) ?_) (by decide)
      show (2 * m + 1).natAbs < 2 ^ 80
      omega
    · have hr' : (r : Int) < 2 * m + 1 := hr
      exact q _ H' (by omega) (by omega) s d
theorem mkF {CT C x dx t : Addr} {H : Hp} {l : List Int} {R : Hp → Prop} (hx : H x = none) (hdx : H dx = none) (hne : dx ≠ x) (ht : H t = some (tp l)) (h1 : 1 ≤ l.length) (h2 : l.length ≤ 41) (hs : ∀ z ∈ l, Sho z) (q : ∀ H', Same H H' → Fo C H' x l → R H') :
    spForm CT C [.ref x, .ref t] (upd (upd H dx (.own x)) x (.ins C dx [])) (fun v H2 => v = .non ∧ R H2) E0 := by
  refine ⟨x, dx, t, t, rfl, .inl ⟨upd_same, rfl⟩, .inr ⟨l, rfl, ?_, h1, h2, hs⟩, fun H2 s2 => ⟨rfl, ?_⟩⟩
  · rw [upd_ne (ne_of_none ht hx), upd_ne (ne_of_none ht hdx)]
    exact ht
  · obtain ⟨s, f⟩ := made_form hx hdx hne s2 ht
    exact q _ s f
theorem Bd.tr {l : List Int} {n b : Nat} (h : Bd l n b) (hn : n ≤ 39) (hb : b < 10 ^ 60) : Tr l := ⟨h.ne, by rw [h.len]; omega, fun x hx => Nat.lt_of_le_of_lt (h.mem x hx) hb⟩
/-- a pair of a form and its row -/
structure Pa (C : Addr) (H : Hp) (v : V) (l : List Int) : Prop where
  tr : Tr l
  at_ : ∃ p f t, v = .ref p ∧ H p = some (.tup [.ref f, .ref t]) ∧ Fo C H f l ∧ H t = some (tp l)
theorem Pa.same {C : Addr} {H H' : Hp} {v : V} {l : List Int} (h : Pa C H v l) (s : Same H H') : Pa C H' v l := by
  obtain ⟨p, f, t, e, h1, h2, h3⟩ := h.at_
  exact ⟨h.tr, p, f, t, e, s _ _ h1, h2.same s, s _ _ h3⟩
theorem prop_ent {C a : Addr} {H : Hp} {xs : List Int} {Q : VK} (fa : Fo C H a xs) (q : ∀ t, H t = some (tp xs) → Q (.ref t) H) : ∃ a' dx vs, V.ref a = .ref a' ∧ Slt H a' C dx vs ∧ spEnt C [.ref a'] H Q E0 := by
  obtain ⟨dx, t, ha, _⟩ := fa.slt
  exact ⟨a, dx, _, rfl, ha, a, xs, rfl, fa, q⟩
theorem prop_deg {C a : Addr} {H : Hp} {xs : List Int} {Q : VK} (fa : Fo C H a xs) (q : Q (.int ((xs.length : Int) - 1)) H) : ∃ a' dx vs, V.ref a = .ref a' ∧ Slt H a' C dx vs ∧ spDeg C [.ref a'] H Q E0 := by
  obtain ⟨dx, t, ha, _⟩ := fa.slt
  exact ⟨a, dx, _, rfl, ha, a, xs, rfl, fa, q⟩
/-- Form(t), t a written row -/
theorem mkB {CT C x dx t : Addr} {H : Hp} {l : List Int} {n b : Nat} {R : Hp → Prop} (hx : H x = none) (hdx : H dx = none) (hne : dx ≠ x) (ht : H t = some (tp l)) (bd : Bd l n b) (hn : n ≤ 39) (hb : b < 10 ^ 60) (q : ∀ H', Same H H' → Fo C H' x l → R H') :
    spForm CT C [.ref x, .ref t] (upd (upd H dx (.own x)) x (.ins C dx [])) (fun v H2 => v = .non ∧ R H2) E0 :=
  mkF hx hdx hne ht (bd.tr hn hb).pos (by have := (bd.tr hn hb).len; omega) (bd.tr hn hb).sho q
end
end K52

set_option Elab.async false
set_option linter.all false
set_option maxRecDepth 100000
/-! values of forms; a form is told by its values -/
namespace K52
/-- the value at x, y of the first n entries -/
def evF : Nat → (Nat → Int) → Int → Int → Int
  | 0, _, _, _ => 0
  | n + 1, g, x, y => x * evF n g x y + g n * y ^ n
def ev (l : List Int) (x y : Int) : Int := evF l.length (co l) x y
theorem evF_congr {g h : Nat → Int} {x y : Int} : ∀ n, (∀ i, i < n → g i = h i) → evF n g x y = evF n h x y
  | 0, _ => rfl
  | n + 1, e => by
    show x * evF n g x y + g n * y ^ n = x * evF n h x y + h n * y ^ n
    rw [evF_congr n fun i hi => e i (by omega), e n (by omega)]
theorem evF_add (g h : Nat → Int) (x y : Int) : ∀ n, evF n (fun i => g i + h i) x y = evF n g x y + evF n h x y
  | 0 => rfl
  | n + 1 => by
    show x * evF n (fun i => g i + h i) x y + (g n + h n) * y ^ n = (x * evF n g x y + g n * y ^ n) + (x * evF n h x y + h n * y ^ n)
    rw [evF_add g h x y n, Int.mul_add, Int.add_mul]
    omega
theorem evF_mul (c : Int) (g : Nat → Int) (x y : Int) : ∀ n, evF n (fun i => c * g i) x y = c * evF n g x y
  | 0 => by show (0 : Int) = c * 0; rw [Int.mul_zero]
  | n + 1 => by
    show x * evF n (fun i => c * g i) x y + (c * g n) * y ^ n = c * (x * evF n g x y + g n * y ^ n)
    rw [evF_mul c g x y n, Int.mul_add, Int.mul_assoc, ← Int.mul_assoc x c, Int.mul_comm x c, Int.mul_assoc]
theorem evF_sh (g : Nat → Int) (x y : Int) : ∀ n, evF (n + 1) (sh g) x y = y * evF n g x y
  | 0 => by
    show x * 0 + (0 : Int) * y ^ 0 = y * 0
    rw [Int.mul_zero, Int.zero_mul, Int.mul_zero]
    rfl
  | n + 1 => by
    show x * evF (n + 1) (sh g) x y + g n * y ^ (n + 1) = y * (x * evF n g x y + g n * y ^ n)
    rw [evF_sh g x y n, Int.mul_add, Int.pow_succ, ← Int.mul_assoc, Int.mul_comm x y, Int.mul_assoc, Int.mul_comm (y ^ n) y, ← Int.mul_assoc (g n), Int.mul_comm (g n) y, Int.mul_assoc y (g n)]
theorem evF_far {g : Nat → Int} (x y : Int) {n : Nat} (h : ∀ i, n ≤ i → g i = 0) : ∀ k, evF (n + k) g x y = x ^ k * evF n g x y
  | 0 => by rw [Nat.add_zero, Int.pow_zero, Int.one_mul]
  | k + 1 => by
    show x * evF (n + k) g x y + g (n + k) * y ^ (n + k) = _
    rw [evF_far x y h k, h _ (by omega), Int.zero_mul, Int.add_zero, Int.pow_succ, ← Int.mul_assoc, Int.mul_comm x]
theorem evF_zero (x y : Int) : ∀ n, evF n (fun _ => 0) x y = 0
  | 0 => rfl
  | n + 1 => by
    show x * evF n (fun _ => 0) x y + 0 * y ^ n = 0
    rw [evF_zero x y n, Int.mul_zero, Int.zero_mul]
    rfl
theorem ev_ml : ∀ {l m : List Int}, l ≠ [] → m ≠ [] → ∀ x y, ev (ml l m) x y = ev l x y * ev m x y := by
  intro l
  induction l with
  | nil => intro m h; exact absurd rfl h
  | cons a l ih =>
    intro m hl hm x y
    have hM : 0 < m.length := List.length_pos_iff.mpr hm
    have e0 : ev (ml (a :: l) m) x y = evF (l.length + m.length) (cv (a :: l) (co m)) x y := by
      unfold ev
      rw [ml_len, show (a :: l).length + m.length - 1 = l.length + m.length by rw [List.length_cons]; omega]
      exact evF_congr _ fun i _ => co_ml hm i
    rw [e0]
    have e1 : evF (l.length + m.length) (cv (a :: l) (co m)) x y = a * evF (l.length + m.length) (co m) x y + evF (l.length + m.length) (sh (cv l (co m))) x y := by
      rw [← evF_mul, ← evF_add]
      exact evF_congr _ fun i _ => cv_cons a l (co m) i
    rw [e1, show l.length + m.length = m.length + l.length by omega, evF_far x y (fun i hi => co_far hi) l.length]
    have e2 : ev (a :: l) x y = a * x ^ l.length + y * evF l.length (co l) x y := by
      unfold ev
      rw [List.length_cons]
      rw [show evF (l.length + 1) (co (a :: l)) x y = evF (l.length + 1) (fun i => a * (if i = 0 then 1 else 0) + sh (co l) i) x y from evF_congr _ fun i _ => by
        rw [co_cons]
        by_cases h : i = 0
        · rw [if_pos h, if_pos h, Int.mul_one]
        · rw [if_neg h, if_neg h, Int.mul_zero], evF_add, evF_mul, evF_sh]
      congr 1
      congr 1
      have h1 : evF (1 + l.length) (fun i => if i = 0 then (1 : Int) else 0) x y = x ^ l.length * evF 1 (fun i => if i = 0 then (1 : Int) else 0) x y := evF_far x y (n := 1) (fun i hi => if_neg (by omega)) l.length
      rw [show l.length + 1 = 1 + l.length by omega, h1]
      show x ^ l.length * (x * 0 + (if 0 = 0 then 1 else 0) * y ^ 0) = _
      rw [if_pos rfl, Int.mul_zero, Int.pow_zero, Int.mul_one, Int.zero_add, Int.mul_one]
    rw [e2]
    by_cases c : l = []
    · subst c
      show a * (x ^ 0 * evF m.length (co m) x y) + evF (m.length + 0) (sh (cv [] (co m))) x y = (a * x ^ 0 + y * 0) * ev m x y
      rw [show evF (m.length + 0) (sh (cv [] (co m))) x y = evF m.length (fun _ => 0) x y from evF_congr _ fun i _ => by cases i <;> rfl, evF_zero, Int.pow_zero, Int.one_mul, Int.mul_one, Int.mul_zero, Int.add_zero, Int.add_zero]
      rfl
    · have hL : 0 < l.length := List.length_pos_iff.mpr c
      have e3 : evF (m.length + l.length) (sh (cv l (co m))) x y = y * (ev l x y * ev m x y) := by
        rw [show m.length + l.length = (l.length + m.length - 1) + 1 by omega, evF_sh, ← ih c hm x y]
        congr 1
        unfold ev
        rw [ml_len]
        exact evF_congr _ fun i _ => (co_ml hm i).symm
      rw [e3]
      show a * (x ^ l.length * ev m x y) + y * (ev l x y * ev m x y) = (a * x ^ l.length + y * ev l x y) * ev m x y
      rw [Int.add_mul, Int.mul_assoc, Int.mul_assoc]
theorem ev_cons (a : Int) (l : List Int) (x y : Int) : ev (a :: l) x y = a * x ^ l.length + y * ev l x y := by
  unfold ev
  rw [List.length_cons]
  rw [show evF (l.length + 1) (co (a :: l)) x y = evF (l.length + 1) (fun i => a * (if i = 0 then 1 else 0) + sh (co l) i) x y from evF_congr _ fun i _ => by
    rw [co_cons]
    by_cases h : i = 0
    · rw [if_pos h, if_pos h, Int.mul_one]
    · rw [if_neg h, if_neg h, Int.mul_zero], evF_add, evF_mul, evF_sh]
  congr 1
  congr 1
  have h1 : evF (1 + l.length) (fun i => if i = 0 then (1 : Int) else 0) x y = x ^ l.length * evF 1 (fun i => if i = 0 then (1 : Int) else 0) x y := evF_far x y (n := 1) (fun i hi => if_neg (by omega)) l.length
  rw [show l.length + 1 = 1 + l.length by omega, h1]
  show x ^ l.length * (x * 0 + (if 0 = 0 then 1 else 0) * y ^ 0) = _
  rw [if_pos rfl, Int.mul_zero, Int.pow_zero, Int.mul_one, Int.zero_add, Int.mul_one]
/-- only the form with zeros has the value 0 everywhere -/
theorem evF_inj {g : Nat → Int} {M : Int} : ∀ n, (∀ i, i < n → (g i).natAbs < M.natAbs) → evF n g M 1 = 0 → ∀ i, i < n → g i = 0
  | 0, _, _, i, hi => absurd hi (Nat.not_lt_zero i)
  | n + 1, hb, e, i, hi => by
    have e' : M * evF n g M 1 + g n * 1 ^ n = 0 := e
    rw [Int.one_pow, Int.mul_one] at e'
    have hd : M ∣ g n := ⟨-evF n g M 1, by rw [Int.mul_neg]; omega⟩
    have hn : g n = 0 := Int.natAbs_eq_zero.mp (Nat.eq_zero_of_dvd_of_lt (Int.natAbs_dvd_natAbs.mpr hd) (hb n (by omega)))
    have hM : M ≠ 0 := fun z => by
      have := hb n (by omega)
      rw [z] at this
      exact absurd this (by simp)
    rw [hn, Int.add_zero] at e'
    have e2 : evF n g M 1 = 0 := (Int.mul_eq_zero.mp e').resolve_left hM
    by_cases c : i = n
    · rw [c]; exact hn
    · exact evF_inj n (fun j hj => hb j (by omega)) e2 i (by omega)
theorem ev_inj {l m : List Int} (hl : l.length = m.length) (h : ∀ x y, ev l x y = ev m x y) : l = m := by
  refine co_inj hl fun i => ?_
  by_cases c : i < l.length
  · have key := evF_inj (g := fun i => co l i + -1 * co m i) (M := ((nm l + nm m + 1 : Nat) : Int)) l.length (fun i _ => by
      rw [Int.natAbs_natCast]
      have h1 : (co l i).natAbs ≤ nm l := by
        rcases co_mem (l := l) (k := i) with e | e
        · rw [e]; exact Nat.zero_le _
        · exact nm_mem e
      have h2 : (co m i).natAbs ≤ nm m := by
        rcases co_mem (l := m) (k := i) with e | e
        · rw [e]; exact Nat.zero_le _
        · exact nm_mem e
      show (co l i + -1 * co m i).natAbs < _
      omega) (by
      rw [evF_add, evF_mul]
      have := h ((nm l + nm m + 1 : Nat) : Int) 1
      unfold ev at this
      rw [← hl] at this
      rw [this]
      omega) i c
    have key' : co l i + -1 * co m i = 0 := key
    omega
  · rw [co_far (by omega), co_far (by omega)]
end K52

set_option Elab.async false
set_option linter.all false
set_option maxRecDepth 100000
/-! changed forms, derived forms: the plain law -/
namespace K52
theorem ev_zs (c : Int) {l m : List Int} (h : l.length = m.length) (x y : Int) : ev (zs c l m) x y = ev l x y + c * ev m x y := by
  have hz : (zs c l m).length = l.length := by unfold zs; rw [List.length_zipWith, h, Nat.min_self]
  have co_zs : ∀ k, co (zs c l m) k = co l k + c * co m k := fun k => by
    unfold zs
    by_cases hk : k < l.length
    · rw [co_get (by rw [List.length_zipWith]; omega), co_get hk, co_get (by omega), List.getElem_zipWith]
    · rw [co_far (by rw [List.length_zipWith]; omega), co_far (by omega), co_far (by omega), Int.mul_zero]
      rfl
  unfold ev
  rw [hz, ← h, ← evF_mul, ← evF_add]
  exact evF_congr _ fun i _ => co_zs i
theorem ev_map (c : Int) (l : List Int) (x y : Int) : ev (l.map (c * ·)) x y = c * ev l x y := by
  unfold ev
  rw [List.length_map, ← evF_mul]
  exact evF_congr _ fun i _ => co_map c l i
theorem ev_one (x y : Int) : ev [1] x y = 1 := by
  rw [ev_cons]
  show 1 * x ^ 0 + y * 0 = 1
  rw [Int.pow_zero, Int.mul_zero]
  rfl
theorem ev_nil (x y : Int) : ev [] x y = 0 := rfl
theorem zs_len {c : Int} {l m : List Int} (h : l.length = m.length) : (zs c l m).length = l.length := by unfold zs; rw [List.length_zipWith, h, Nat.min_self]
/-- how the program changes: the entries that are left, what is found, the power of the second row -/
def chg (X Y : List Int) : List Int → List Int → List Int → List Int
  | [], f, _ => f
  | e :: r, f, p => chg X Y r (zs e (ml f X) (ml p Y)) (ml p Y)
theorem chg_len {X Y : List Int} (hX : X.length = 2) (hY : Y.length = 2) : ∀ (r f p : List Int), f ≠ [] → f.length = p.length → (chg X Y r f p).length = f.length + r.length
  | [], f, p, _, _ => rfl
  | e :: r, f, p, nf, h => by
    have pf : 0 < f.length := List.length_pos_iff.mpr nf
    have l1 : (ml f X).length = f.length + 1 := by rw [ml_len, hX]; omega
    have l2 : (ml p Y).length = f.length + 1 := by rw [ml_len, hY, ← h]; omega
    have l3 : (zs e (ml f X) (ml p Y)).length = f.length + 1 := by rw [zs_len (by rw [l1, l2]), l1]
    show (chg X Y r (zs e (ml f X) (ml p Y)) (ml p Y)).length = _
    rw [chg_len hX hY r _ _ (fun z => by rw [z] at l3; cases l3) (by rw [l3, l2]), l3, List.length_cons]
    omega
theorem ev_chg {X Y : List Int} (hX : X.length = 2) (hY : Y.length = 2) (x y : Int) : ∀ (r f p : List Int), f ≠ [] → f.length = p.length →
    ev (chg X Y r f p) x y = ev f x y * ev X x y ^ r.length + ev p x y * ev Y x y * ev r (ev X x y) (ev Y x y)
  | [], f, p, _, _ => by
    show ev f x y = ev f x y * ev X x y ^ 0 + ev p x y * ev Y x y * 0
    rw [Int.pow_zero, Int.mul_one, Int.mul_zero, Int.add_zero]
  | e :: r, f, p, nf, h => by
    have pf : 0 < f.length := List.length_pos_iff.mpr nf
    have np : p ≠ [] := fun z => by rw [z] at h; simp at h; exact nf h
    have nX : X ≠ [] := fun z => by rw [z] at hX; cases hX
    have nY : Y ≠ [] := fun z => by rw [z] at hY; cases hY
    have l1 : (ml f X).length = f.length + 1 := by rw [ml_len, hX]; omega
    have l2 : (ml p Y).length = f.length + 1 := by rw [ml_len, hY, ← h]; omega
    have l3 : (zs e (ml f X) (ml p Y)).length = f.length + 1 := by rw [zs_len (by rw [l1, l2]), l1]
    show ev (chg X Y r (zs e (ml f X) (ml p Y)) (ml p Y)) x y = _
    rw [ev_chg hX hY x y r _ _ (fun z => by rw [z] at l3; cases l3) (by rw [l3, l2]), ev_zs e (by rw [l1, l2]), ev_ml nf nX, ev_ml np nY, ev_cons, List.length_cons, Int.pow_succ]
    generalize ev f x y = a
    generalize ev p x y = b
    generalize ev X x y = u
    generalize ev Y x y = v
    generalize ev r u v = w
    generalize u ^ r.length = z
    grind
/-- the changed form -/
def changed (X Y l : List Int) : List Int := chg X Y l.tail [co l 0] [1]
theorem changed_len {X Y l : List Int} (hX : X.length = 2) (hY : Y.length = 2) (h : l ≠ []) : (changed X Y l).length = l.length := by
  match l, h with
  | a :: r, _ =>
    show (chg X Y r [a] [1]).length = _
    rw [chg_len hX hY r [a] [1] (by simp) rfl]
    show 1 + r.length = r.length + 1
    omega
theorem ev_changed {X Y l : List Int} (hX : X.length = 2) (hY : Y.length = 2) (h : l ≠ []) (x y : Int) : ev (changed X Y l) x y = ev l (ev X x y) (ev Y x y) := by
  match l, h with
  | a :: r, _ =>
    show ev (chg X Y r [a] [1]) x y = _
    rw [ev_chg hX hY x y r [a] [1] (by simp) rfl, ev_one, ev_cons a r, Int.one_mul, ev_cons a []]
    show (a * x ^ 0 + y * 0) * _ + _ = _
    rw [Int.pow_zero, Int.mul_one, Int.mul_zero, Int.add_zero]
theorem ev2 (a b x y : Int) : ev [a, b] x y = a * x + b * y := by
  rw [ev_cons, ev_cons, ev_nil]
  show a * x ^ 1 + y * (b * x ^ 0 + y * 0) = _
  rw [Int.pow_zero, Int.pow_succ, Int.pow_zero]
  grind
theorem pow_zero {c : Int} : ∀ {n : Nat}, c ^ n = 0 → c = 0
  | 0, h => by rw [Int.pow_zero] at h; cases h
  | n + 1, h => by
    rw [Int.pow_succ] at h
    rcases Int.mul_eq_zero.mp h with e | e
    · exact pow_zero e
    · exact e
/-! ### derivatives -/
/-- derived by x, by y -/
def dX (l : List Int) : List Int := tb (l.length - 1) fun k => co l k * ((l.length : Int) - 1 - k)
def dY (l : List Int) : List Int := tb (l.length - 1) fun k => co l (k + 1) * ((k : Int) + 1)
theorem dX_len (l : List Int) : (dX l).length = l.length - 1 := tb_len _ _
theorem dY_len (l : List Int) : (dY l).length = l.length - 1 := tb_len _ _
theorem co_zs' (c : Int) {l m : List Int} (h : l.length = m.length) (k : Nat) : co (zs c l m) k = co l k + c * co m k := by
  unfold zs
  by_cases hk : k < l.length
  · rw [co_get (by rw [List.length_zipWith]; omega), co_get hk, co_get (by omega), List.getElem_zipWith]
  · rw [co_far (by rw [List.length_zipWith]; omega), co_far (by omega), co_far (by omega), Int.mul_zero]
    rfl
def it (f : List Int → List Int) : Nat → List Int → List Int
  | 0, l => l
  | n + 1, l => f (it f n l)
theorem dX_it_len (l : List Int) : ∀ n, (it dX n l).length = l.length - n
  | 0 => rfl
  | n + 1 => by
    show (dX (it dX n l)).length = _
    rw [dX_len, dX_it_len l n]
    omega
theorem dY_it_len (l : List Int) : ∀ n, (it dY n l).length = l.length - n
  | 0 => rfl
  | n + 1 => by
    show (dY (it dY n l)).length = _
    rw [dY_len, dY_it_len l n]
    omega
/-- derived i times by x, j times by y -/
def dd (i j : Nat) (l : List Int) : List Int := it dY j (it dX i l)
theorem dd_len (i j : Nat) (l : List Int) : (dd i j l).length = l.length - i - j := by
  unfold dd
  rw [dY_it_len, dX_it_len]
end K52

set_option Elab.async false
set_option linter.all false
set_option maxRecDepth 100000
set_option maxHeartbeats 4000000
namespace K52
open PySem PySem.Spec PyProof.Rows L2 StX RZ MyR SlX OwnR OwnF EnumT
/-- a comprehension over enumerate of a tuple -/
theorem lc_enumT {K : PySem.W.Frag} {a : Addr} {xs : List V} {g : TG} {tt : TT} {te : TE} {vs : List Nat} {σ : L2.St} {H1 : Hp} {D : Addr} {Qd : Hp → Prop} (Pv : Nat → Hp → Prop) (h0 : Pv 0 (upd H1 D (.lst []))) (hq : ∀ i H, i ≤ xs.length → Pv i H → SqT K H a xs)
    (hs : ∀ (i : Nat) (x : V) (T : Addr) (H : Hp), xs[i]? = some x → Pv i H → H T = none → g (.ref T) (wipe σ vs) (upd H T (.tup [.int (i : Nat), x])) fun σ2 H2 => wipe σ2 vs = wipe σ vs ∧ tt σ2 H2 fun b H3 =>
      if b = true then te σ2 H3 fun y H4 => ∃ acc, H4 D = some (.lst acc) ∧ acc.length < sizeLine ∧ Pv (i + 1) (upd H4 D (.lst (acc ++ [y]))) else Pv (i + 1) H3) (hd : ∀ H, Pv xs.length H → Qd H) :
    ∃ W : Nat → Nat → Hp → Prop, (∃ m, W 0 m (upd H1 D (.lst []))) ∧ ∀ i m H, W i m H →
      ((IteT K a).stop i H ∧ Qd H) ∨ ((IteT K a).go i H ∧ ∃ Nx : Hp → Prop, (∀ H', Nx H' → ∃ m', m' < m ∧ W (i + 1) m' H') ∧ ∀ x H', (IteT K a).yld i H x H' → g x (wipe σ vs) H' fun σ2 H2 => wipe σ2 vs = wipe σ vs ∧ tt σ2 H2 fun b H3 =>
        if b = true then te σ2 H3 fun y H4 => ∃ acc, H4 D = some (.lst acc) ∧ acc.length < sizeLine ∧ Nx (upd H4 D (.lst (acc ++ [y]))) else Nx H3) := by
  refine ⟨fun i m H => m = xs.length - i ∧ i ≤ xs.length ∧ Pv i H, ⟨xs.length, by simp, Nat.zero_le _, h0⟩, ?_⟩
  rintro i m H ⟨rfl, hi, p⟩
  have qx := hq i H hi p
  by_cases hlt : i < xs.length
  · have hx : xs[i]? = some xs[i] := List.getElem?_eq_getElem hlt
    refine .inr ⟨⟨xs, _, qx, hx⟩, Pv (i + 1), fun H' p' => ⟨xs.length - (i + 1), by omega, rfl, hlt, p'⟩, fun v H' y => ?_⟩
    obtain ⟨T, x', rfl, hT, rfl, f1⟩ := y
    exact hs i x' T H (f1 xs qx) p hT
  · have e : i = xs.length := by omega
    subst e
    exact .inl ⟨⟨xs, qx, rfl⟩, hd H p⟩
section
variable {P : Program} {w : World} {K : PySem.W.Frag} {mg : Str → Option Value} {base : Heap}
theorem ok_product_in (T : Facts K mg) : FnOk P w K mg base CX0 2 T.f_product_in T.fd_product_in ["one", "other"] (spJoin K) := by
  have G_joined_entries : FnOk P w K mg base CX0 1 T.f_joined_entries T.fd_joined_entries ["one", "other"] (spJoin K) := ok_joined_entries T
  refine T.F_product_in.ok sc_product_in (fun vs H Q E h => ?_) (fun cdv A outer s H vs Q E hr h => ?_)
  · obtain ⟨a, b, xs, ys, rfl, _⟩ := h
    rfl
  · obtain ⟨a, b, xs, ys, rfl, h⟩ := h
    refine ⟨_, (PSs.nox (pss_one (ps_ret (pe_call G_joined_entries hr (by rfl) T.g_joined_entries T.F_joined_entries.kp T.b_joined_entries .nil pass0 (pa_cons (pv 0) (pa_cons (pv 1) pa_nil)))))), ?_⟩
    exact ⟨_, rfl, _, rfl, a, b, xs, ys, rfl, h⟩
def spFrom : Sp := fun vs H Q _ => ∃ i lo hi : Int, vs = [.int i, .int lo, .int hi] ∧ lo ≤ i ∧ i ≤ hi ∧ Q (.bl true) H
theorem ok_is_from (T : Facts K mg) : FnOk P w K mg base CX0 2 T.f_is_from T.fd_is_from ["value", "least", "most"] spFrom := by
  have G_is_whole : FnOk P w K mg base CX0 1 T.f_is_whole T.fd_is_whole ["value"] spWhole := ok_is_whole T
  refine T.F_is_from.ok sc_is_from (fun vs H Q E h => ?_) (fun cdv A outer s H vs Q E hr h => ?_)
  · obtain ⟨i, lo, hi, rfl, _⟩ := h
    rfl
  · obtain ⟨i, lo, hi, rfl, h1, h2, q⟩ := h
    refine ⟨_, (PSs.nox (pss_one (ps_ret (pe_and (pe_call G_is_whole hr (by rfl) T.g_is_whole T.F_is_whole.kp T.b_is_whole .nil pass0 (pa_cons (pv 0) pa_nil)) (pe_one (pe_chain op_le op_le (pv 1) (pv 0) (pv 2))))))), ?_⟩
    refine ⟨_, rfl, i, rfl, true, rfl, iteT ⟨_, rfl, _, rfl, _, _, rfl, rfl, true, ?_, iteT ⟨_, rfl, _, _, rfl, rfl, ?_⟩⟩⟩
    · show V.bl (decide (lo ≤ i)) = _
      rw [decide_eq_true h1]
    · show Q (V.bl (decide (i ≤ hi))) H
      rw [decide_eq_true h2]
      exact q
/-! ### values -/
/-- what is asked of a value's letters -/
structure Vb (l : List Int) (x y : Int) (M : Nat) : Prop where
  x : x.natAbs ≤ M
  y : y.natAbs ≤ M
  one : 1 ≤ M
  big : nm l * M ^ l.length < 2 ^ 400
  pw : M ^ (l.length + 1) < 2 ^ 400
/-! ### changes -/
/-- a table of two rows of two -/
def Tb (H : Hp) (t : Addr) (X Y : List Int) : Prop := ∃ r0 r1, H t = some (.tup [.ref r0, .ref r1]) ∧ H r0 = some (tp X) ∧ H r1 = some (tp Y)
theorem Tb.same {H H' : Hp} {t : Addr} {X Y : List Int} (h : Tb H t X Y) (s : Same H H') : Tb H' t X Y := by
  obtain ⟨r0, r1, h1, h2, h3⟩ := h
  exact ⟨r0, r1, s _ _ h1, s _ _ h2, s _ _ h3⟩
theorem Tb.sx {H H' : Hp} {t d : Addr} {X Y : List Int} (h : Tb H t X Y) (hd : Dc H d) (s : Sx d H H') : Tb H' t X Y := by
  obtain ⟨r0, r1, h1, h2, h3⟩ := h
  exact ⟨r0, r1, s _ _ (dc_ne hd h1) h1, s _ _ (dc_ne hd h2) h2, s _ _ (dc_ne hd h3) h3⟩
/-- short pairs -/
structure Pr2 (X : List Int) : Prop where
  len : X.length = 2
  sho : ∀ x ∈ X, Sho x
theorem sIx_neg {n : Nat} (h : 1 ≤ n) : HT.sIx n n (some (-1)) = n - 1 := by
  unfold HT.sIx
  simp only []
  split <;> omega
theorem cut_tail (xs : List V) (h : 1 ≤ xs.length) : cutV xs (some 1) none = xs.drop 1 := by
  unfold cutV
  have e1 : HT.sIx xs.length 0 (some 1) = 1 := by
    unfold HT.sIx
    simp only []
    split <;> omega
  have e2 : HT.sIx xs.length xs.length none = xs.length := rfl
  rw [e1, e2]
  exact List.take_of_length_le (by rw [List.length_drop]; omega)
theorem cut_init (xs : List V) (h : 1 ≤ xs.length) : cutV xs none (some (-1)) = xs.take (xs.length - 1) := by
  unfold cutV
  have e1 : HT.sIx xs.length 0 none = 0 := rfl
  rw [e1, sIx_neg h, List.drop_zero, Nat.sub_zero]
/-- all that is made on the way is let -/
def ChOk (X Y : List Int) : List Int → List Int → List Int → Prop
  | [], _, _ => True
  | e :: r, f, p => Rw f ∧ Rw p ∧ sm e ∧ Rw (ml p Y) ∧ Rw (ml f X) ∧ ChOk X Y r (zs e (ml f X) (ml p Y)) (ml p Y)
def spChanged : Sp := fun vs H Q _ => ∃ (a t : Addr) (l X Y : List Int), vs = [.ref a, .ref t] ∧ H a = some (tp l) ∧ Tb H t X Y ∧ l ≠ [] ∧ l.length ≤ 100 ∧ X.length = 2 ∧ Y.length = 2 ∧ Rw X ∧ Rw Y ∧ ChOk X Y l.tail [co l 0] [1] ∧ ∀ p H', Same H H' → H' p = some (tp (changed X Y l)) → Q (.ref p) H'
theorem ok_changed_in (T : Facts K mg) : FnOk P w K mg base CX0 3 T.f_changed_in T.fd_changed_in ["entries", "table"] spChanged := by
  have G_product_in := ok_product_in (P := P) (w := w) (base := base) T
  refine T.F_changed_in.ok sc_changed_in (fun vs H Q E h => ?_) (fun cdv A outer s H vs Q E hr h => ?_)
  · obtain ⟨a, t, l, X, Y, rfl, _⟩ := h
    rfl
  · obtain ⟨a, t, l, X, Y, rfl, ha, ht, nl, hl, lX, lY, rX, rY, ok, q⟩ := h
    obtain ⟨r0, r1, h1, h2, h3⟩ := ht
    have pl : 0 < l.length := List.length_pos_iff.mpr nl
    refine ⟨_, (PSs.nox (pss_cons (ps_par (i := 2) (j := 3) (by rfl) sc_changed_in.nd rfl rfl (by decide) rfl rfl (pa_cons (pe_tup (pa_cons (pe_ix ix_tup (pv 0) pe_int (fun _ _ => rfl)) pa_nil)) (pa_cons (pe_tup (pa_cons pe_int pa_nil)) pa_nil)) (by rfl))
    (pss_cons (ps_for PassesOwn.never (by rfl) (pi_tup (pe_slice sl_tupA (pv 0) (po_some pe_int) po_none)) (pg_name (i := 4) sc_changed_in.nd rfl (.inr rfl))
      (pss_cons (ps_set (i := 3) sc_changed_in.nd rfl (.inl rfl) (pe_call G_product_in hr (by rfl) T.g_product_in T.F_product_in.kp T.b_product_in .nil pass0 (pa_cons (pv 3) (pa_cons (pe_ix ix_tup (pv 1) pe_int (fun _ _ => rfl)) pa_nil))))
      (pss_cons (ps_set (i := 5) sc_changed_in.nd rfl (.inl rfl) (pe_call G_product_in hr (by rfl) T.g_product_in T.F_product_in.kp T.b_product_in .nil pass0 (pa_cons (pv 2) (pa_cons (pe_ix ix_tup (pv 1) pe_int (fun _ _ => rfl)) pa_nil))))
      (pss_one (ps_set (i := 2) sc_changed_in.nd rfl (.inl rfl) (pe_tupleOf (by rfl) T.z_tuple (pe_lc (own := [("first", 6), ("second", 7)]) (g := (gTup K 2 (gCons (gName 6) (gCons (gName 7) gNil)))) (tt := tYes) (by rfl) sc_changed_in.nd (pi_zipA (by rfl) T.z_zip (pa_cons (pv 5) (pa_cons (pv 3) pa_nil))) (blkOk_by (N := N_changed_in) (sc := defScope s_changed_in) (by decide +kernel)) (fun _ _ _ _ _ => (pg_tup (by rfl) (pgs_cons (pg_name (i := 6) sc_changed_in.nd rfl (.inl rfl)) (pgs_cons (pg_name (i := 7) sc_changed_in.nd rfl (.inl rfl)) pgs_nil)))) (fun _ _ _ _ _ => pts_nil) (fun _ _ _ _ _ => (pe_op op_add (pv 6) (pe_op op_mulW (pv 4) (pv 7)))))))))))
    (pss_one (ps_ret (pv 2)))))), ?_⟩
    refine ⟨_, rfl, a, _, 0, _, rfl, rfl, SqT.of ha, atI_nat (get_int pl), by show 1 ≤ sizeLine; decide, fun p0 n0 => gen_upd H p0 (tp [co l 0]) n0 fun H1 s1 f1 => ⟨by show 1 ≤ sizeLine; decide, fun p1 n1 => gen_upd H1 p1 (tp [1]) n1 fun H2 s2 f2 => ⟨_, _, rfl, ?_⟩⟩⟩
    have s02 := s1.trans s2
    have e1 : HT.sIx l.length 0 (some 1) = 1 := by
      unfold HT.sIx
      simp only []
      split <;> omega
    have ecut : HO.tup (cutV (l.map V.int) (some 1) none) = tp l.tail := by
      rw [cut_tail _ (by rw [List.length_map]; exact pl), ← List.map_drop, List.drop_one]
    refine ⟨_, rfl, 1, rfl, a, _, rfl, SqT.of (s02 _ _ ha), fun z => absurd z.1 (by rw [List.length_map, e1]; decide), fun _ p2 n2 => ?_⟩
    rw [ecut]
    refine gen_upd H2 p2 (tp l.tail) n2 fun H3 s3 f3 => ?_
    have s03 := s02.trans s3
    have ltail : l.tail.length = l.length - 1 := List.length_tail
    refine ⟨p2, rfl, ⟨_, SqT.of f3⟩, for_tup (xs := l.tail.map V.int) (fun i σ H' => ∃ (f p : List Int) (fa pa : Addr) (y4 y5 : Option V), σ = [some (.ref a), some (.ref t), some (.ref fa), some (.ref pa), y4, y5, none, none] ∧ Same H3 H' ∧ H' fa = some (tp f) ∧ H' pa = some (tp p) ∧ f.length = i + 1 ∧ p.length = i + 1 ∧ ChOk X Y (l.tail.drop i) f p ∧ chg X Y (l.tail.drop i) f p = changed X Y l) ⟨_, _, p0, p1, none, none, rfl, Same.rf _, (s2.trans s3) _ _ f1, s3 _ _ f2, rfl, rfl, ok, rfl⟩ (fun i σ H' _ hP => ?_) (fun i z σ H' hz hP => ?_) (fun σ H' hP => ?_)⟩
    · obtain ⟨f, p, fa, pa, y4, y5, _, sH, _⟩ := hP
      exact SqT.of (sH _ _ f3)
    · obtain ⟨f, p, fa, pa, y4, y5, rfl, sH, hf, hp, lf, lp, okI, eI⟩ := hP
      obtain ⟨hi, rfl⟩ := int_get hz
      have ed : l.tail.drop i = co l.tail i :: l.tail.drop (i + 1) := by
        rw [co_get hi]
        exact List.drop_eq_getElem_cons hi
      rw [ed] at okI eI
      obtain ⟨rf, rp, se, rpY, rfX, okN⟩ := okI
      have tH := s03.trans sH
      refine ⟨_, rfl, _, rfl, t, _, 1, _, rfl, rfl, SqT.of (tH _ _ h1), atI_nat (j := 1) rfl, pa, r1, p, Y, rfl, hp, tH _ _ h3, rp.ne, rY.ne, rp.len, rY.len, rp.sm, rY.sm, fun q1 J1 g1 _ k1 => ?_⟩
      have tJ1 := tH.trans g1
      refine ⟨_, rfl, _, rfl, t, _, 0, _, rfl, rfl, SqT.of (tJ1 _ _ h1), atI_nat (j := 0) rfl, fa, r0, f, X, rfl, g1 _ _ hf, tJ1 _ _ h2, rf.ne, rX.ne, rf.len, rX.len, rf.sm, rX.sm, fun q2 J2 g2 _ k2 => ?_⟩
      have k1' := g2 _ _ k1
      have l1 : (ml p Y).length = i + 2 := by rw [ml_len, lp, lY]; omega
      have l2 : (ml f X).length = i + 2 := by rw [ml_len, lf, lX]; omega
      refine ⟨_, rfl, _, rfl, q2, q1, _, _, rfl, .inr ⟨SqT.of k2, SqT.of k1', fun D hD => ?_⟩⟩
      refine lc_zipT (xs := (ml f X).map V.int) (ys := (ml p Y).map V.int) (by rw [List.length_map, List.length_map, l1, l2]) (fun j H' => Same J2 H' ∧ H' D = some (.lst (tab j fun k => co (ml f X) k + co l.tail i * co (ml p Y) k))) ⟨same_upd0 hD, upd_same⟩ (fun j H' _ hP => ⟨SqT.of (hP.1 _ _ k2), SqT.of (hP.1 _ _ k1')⟩) (fun j x y T H' hx hy hP hT => ?_) (fun H4 hP => ?_)
      · obtain ⟨sH4, hD'⟩ := hP
        obtain ⟨hj, rfl⟩ := int_get hx
        obtain ⟨hj2, rfl⟩ := int_get hy
        have sT := same_upd0 (o := .tup [.int (co (ml f X) j), .int (co (ml p Y) j)]) hT
        refine ⟨T, _, rfl, SqT.of upd_same, rfl, _, _, rfl, _, _, rfl, rfl, rfl, _, rfl, _, rfl, _, rfl, _, _, rfl, rfl, sm_mul se (sm_co rpY.sm hj2), _, _, rfl, rfl, _, sT _ _ hD', ?_, fun b o e => ?_, ?_⟩
        · rw [tab_len]
          exact small1000 (by omega)
        · rw [upd_ne (ne_of_none e hD)]
          exact sT _ _ (sH4 _ _ e)
        · rw [upd_same, ← tab_snoc]
      · obtain ⟨sH4, hD'⟩ := hP
        rw [List.length_map] at hD'
        refine .inl ⟨D, _, rfl, SqL.of hD', fun p5 n5 => ?_⟩
        rw [tab_tb, zs_tb (by rw [l1, l2])]
        refine gen_upd H4 p5 _ n5 fun H5 s5 f5 => ⟨_, _, p5, q1, _, _, rfl, ((sH.trans (g1.trans g2)).trans sH4).trans s5, f5, (sH4.trans s5) _ _ k1', by rw [zs_len (by rw [l1, l2]), l2], l1, okN, eI⟩
    · obtain ⟨f, p, fa, pa, y4, y5, rfl, sH, hf, hp, lf, lp, okI, eI⟩ := hP
      rw [List.length_map, List.drop_length] at eI
      refine ⟨_, rfl, q fa H' (s03.trans sH) ?_⟩
      rw [← eI]
      exact hf
end
end K52

set_option Elab.async false
set_option linter.all false
set_option maxRecDepth 100000
set_option maxHeartbeats 4000000
namespace K52
open PySem PySem.Spec PyProof.Rows L2 StX RZ MyR SlX OwnR OwnF EnumT
section
variable {P : Program} {w : World} {K : PySem.W.Frag} {mg : Str → Option Value} {base : Heap}
/-- all that is derived on the way is let -/
structure DdOk (i j : Nat) (l : List Int) : Prop where
  len : i + j + 1 ≤ l.length
  le : l.length ≤ 100
  sx : ∀ u, u ≤ i → ∀ z ∈ it dX u l, sm z
  sy : ∀ u, u ≤ j → ∀ z ∈ it dY u (it dX i l), sm z
def spDerived : Sp := fun vs H Q _ => ∃ (a : Addr) (l : List Int) (i j : Nat), vs = [.ref a, .int i, .int j] ∧ H a = some (tp l) ∧ DdOk i j l ∧ ∀ p H', Same H H' → H' p = some (tp (dd i j l)) → Q (.ref p) H'
theorem ecut_init {l : List Int} (h : 1 ≤ l.length) : HO.tup (cutV (l.map V.int) none (some (-1))) = tp (l.take (l.length - 1)) := by
  rw [cut_init _ (by rw [List.length_map]; exact h), ← List.map_take, List.length_map]
theorem ecut_tail {l : List Int} (h : 1 ≤ l.length) : HO.tup (cutV (l.map V.int) (some 1) none) = tp (l.drop 1) := by
  rw [cut_tail _ (by rw [List.length_map]; exact h), ← List.map_drop]
theorem co_take {l : List Int} {n k : Nat} (h : k < n) : co (l.take n) k = co l k := by
  unfold co
  rw [List.getD_eq_getElem?_getD, List.getD_eq_getElem?_getD, List.getElem?_take_of_lt h]
theorem co_drop1 (l : List Int) (k : Nat) : co (l.drop 1) k = co l (k + 1) := by
  unfold co
  rw [List.getD_eq_getElem?_getD, List.getD_eq_getElem?_getD, List.getElem?_drop, Nat.add_comm]
theorem Pr2.rw {X : List Int} (h : Pr2 X) : Rw X := ⟨fun z => (by have := h.len; rw [z] at this; cases this), (by rw [h.len]; decide), fun x hx => Nat.lt_trans (h.sho x hx) (by decide)⟩
end
end K52

set_option Elab.async false
set_option linter.all false
set_option maxRecDepth 100000
set_option maxHeartbeats 4000000
namespace K52
open PySem PySem.Spec PyProof.Rows L2 StX RZ MyR SlX OwnR OwnF EnumT
/-! ### how large changed and derived forms are -/
theorem bd_zs' {l m : List Int} {n b c : Nat} (e : Int) (h : Bd l n b) (g : Bd m n c) : Bd (zs e l m) n (b + e.natAbs * c) := by
  have hz : zs e l m = zs 1 l (m.map (e * ·)) := by
    refine co_inj (by rw [zs_len (by rw [h.len, g.len]), zs_len (by rw [List.length_map, h.len, g.len])]) fun k => ?_
    rw [co_zs' e (by rw [h.len, g.len]), co_zs' 1 (by rw [List.length_map, h.len, g.len]), co_map, Int.one_mul]
  rw [hz]
  exact bd_zs h (bd_scale g (Nat.le_refl _))
theorem nm_cons (x : Int) (xs : List Int) : nm (x :: xs) = x.natAbs + nm xs := rfl
theorem chOk_of {X Y : List Int} {b : Nat} (hb : 1 ≤ b) (hX : Bd X 1 b) (hY : Bd Y 1 b) : ∀ (r f p : List Int) (k S : Nat), Bd f k (S * b ^ k) → Bd p k (b ^ k) → k + r.length ≤ 90 → (S + nm r + 1) * b ^ (k + r.length) < 2 ^ 400 → ChOk X Y r f p
  | [], _, _, _, _, _, _, _, _ => True.intro
  | e :: r, f, p, k, S, hf, hp, hk, hB => by
    have h1 := bd_ml hf hX
    have h2 := bd_ml hp hY
    have h3 := bd_zs' e h1 h2
    have h4 : Bd (zs e (ml f X) (ml p Y)) (k + 1) ((S + e.natAbs) * b ^ (k + 1)) := by
      refine h3.mono (Nat.le_of_eq ?_)
      rw [Nat.add_mul, Nat.pow_succ, Nat.mul_assoc]
    rw [List.length_cons] at hk hB
    rw [nm_cons] at hB
    have pk : b ^ k ≤ b ^ (k + (r.length + 1)) := Nat.pow_le_pow_right hb (by omega)
    have pk1 : b ^ (k + 1) ≤ b ^ (k + (r.length + 1)) := Nat.pow_le_pow_right hb (by omega)
    have fin : ∀ c d : Nat, c ≤ S + (e.natAbs + nm r) + 1 → d ≤ b ^ (k + (r.length + 1)) → c * d < 2 ^ 400 := fun c d hc hd => Nat.lt_of_le_of_lt (Nat.mul_le_mul hc hd) hB
    have f1 := fin S _ (by omega) pk
    have f2 := fin 1 _ (by omega) pk
    have f3 := fin e.natAbs 1 (by omega) (Nat.pow_pos hb)
    have f4 := fin 1 _ (by omega) pk1
    have f5 := fin S _ (by omega) pk1
    rw [Nat.one_mul] at f2 f4
    rw [Nat.mul_one] at f3
    refine ⟨hf.rw (by omega) f1, hp.rw (by omega) f2, f3, h2.rw (by omega) (by rw [← Nat.pow_succ]; exact f4), h1.rw (by omega) (by rw [Nat.mul_assoc, ← Nat.pow_succ]; exact f5), ?_⟩
    refine chOk_of hb hX hY r _ _ (k + 1) (S + e.natAbs) h4 (by rw [Nat.pow_succ]; exact h2) (by omega) ?_
    rw [show k + 1 + r.length = k + (r.length + 1) by omega]
    exact Nat.lt_of_le_of_lt (Nat.mul_le_mul (by omega) (Nat.le_refl _)) hB
theorem changed_ok {X Y l : List Int} {n b B : Nat} (hb : 1 ≤ b) (hX : Bd X 1 b) (hY : Bd Y 1 b) (hl : Bd l n B) (hn : n ≤ 90) (hB : (B + 1) * b ^ n < 2 ^ 400) : ChOk X Y l.tail [co l 0] [1] := by
  match l, hl with
  | a :: r, hl =>
    have hr : r.length = n := by have := hl.len; rw [List.length_cons] at this; omega
    have h0 : Bd [a] 0 (a.natAbs * b ^ 0) := ⟨rfl, by show a.natAbs + 0 ≤ _; rw [Nat.pow_zero]; omega⟩
    refine chOk_of hb hX hY r [a] [1] 0 a.natAbs h0 bd_one (by omega) ?_
    rw [Nat.zero_add, hr]
    exact Nat.lt_of_le_of_lt (Nat.mul_le_mul (by have := hl.nm; rw [nm_cons] at this; omega) (Nat.le_refl _)) hB
theorem sN_le_mul {f g : Nat → Int} {c : Nat} : ∀ n, (∀ k, k < n → (f k).natAbs ≤ c * (g k).natAbs) → sN n f ≤ c * sN n g
  | 0, _ => Nat.zero_le _
  | n + 1, h => by
    show sN n f + (f n).natAbs ≤ c * (sN n g + (g n).natAbs)
    have h1 := sN_le_mul n fun k hk => h k (by omega)
    have h2 := h n (by omega)
    rw [Nat.mul_add]
    omega
theorem nm_drop1 (l : List Int) : nm (l.drop 1) ≤ nm l := by
  cases l with
  | nil => exact Nat.le_refl _
  | cons x xs => exact Nat.le_add_left _ _
theorem nm_dX (l : List Int) : nm (dX l) ≤ l.length * nm l := by
  unfold dX
  rw [nm_tb]
  refine Nat.le_trans (sN_le_mul (g := co l) (c := l.length) _ fun k hk => ?_) (Nat.mul_le_mul (Nat.le_refl _) (sN_co l _))
  rw [Int.natAbs_mul, Nat.mul_comm]
  exact Nat.mul_le_mul (by omega) (Nat.le_refl _)
theorem nm_dY (l : List Int) : nm (dY l) ≤ l.length * nm l := by
  unfold dY
  rw [nm_tb]
  refine Nat.le_trans (sN_le_mul (g := co (l.drop 1)) (c := l.length) _ fun k hk => ?_) (Nat.mul_le_mul (Nat.le_refl _) (Nat.le_trans (sN_co (l.drop 1) _) (nm_drop1 l)))
  rw [Int.natAbs_mul, Nat.mul_comm, co_drop1]
  exact Nat.mul_le_mul (by omega) (Nat.le_refl _)
theorem nm_dX_it (l : List Int) : ∀ u, nm (it dX u l) ≤ l.length ^ u * nm l
  | 0 => by rw [Nat.pow_zero, Nat.one_mul]; exact Nat.le_refl _
  | u + 1 => by
    have h1 := nm_dX (it dX u l)
    have h2 := nm_dX_it l u
    rw [dX_it_len] at h1
    show nm (dX (it dX u l)) ≤ _
    rw [Nat.pow_succ, Nat.mul_comm (l.length ^ u), Nat.mul_assoc]
    exact Nat.le_trans h1 (Nat.mul_le_mul (by omega) h2)
theorem nm_dY_it (l : List Int) : ∀ u, nm (it dY u l) ≤ l.length ^ u * nm l
  | 0 => by rw [Nat.pow_zero, Nat.one_mul]; exact Nat.le_refl _
  | u + 1 => by
    have h1 := nm_dY (it dY u l)
    have h2 := nm_dY_it l u
    rw [dY_it_len] at h1
    show nm (dY (it dY u l)) ≤ _
    rw [Nat.pow_succ, Nat.mul_comm (l.length ^ u), Nat.mul_assoc]
    exact Nat.le_trans h1 (Nat.mul_le_mul (by omega) h2)
theorem nm_dd (i j : Nat) (l : List Int) (h : 1 ≤ l.length) : nm (dd i j l) ≤ l.length ^ (i + j) * nm l := by
  unfold dd
  refine Nat.le_trans (nm_dY_it (it dX i l) j) ?_
  rw [dX_it_len]
  refine Nat.le_trans (Nat.mul_le_mul (Nat.pow_le_pow_left (show l.length - i ≤ l.length by omega) j) (nm_dX_it l i)) (Nat.le_of_eq ?_)
  rw [Nat.pow_add, ← Nat.mul_assoc, Nat.mul_comm (l.length ^ j)]
end K52

set_option Elab.async false
set_option linter.all false
set_option maxRecDepth 100000
set_option maxHeartbeats 4000000
namespace K52
open PySem PySem.Spec PyProof.Rows L2 StX RZ MyR SlX OwnR OwnF EnumT
section
variable {P : Program} {w : World} {K : PySem.W.Frag} {mg : Str → Option Value} {base : Heap}
def spByX : Sp := fun vs H Q _ => ∃ (a : Addr) (m : List Int), vs = [.ref a] ∧ H a = some (tp m) ∧ 1 ≤ m.length ∧ m.length ≤ 100 ∧ (∀ z ∈ m, sm z) ∧ ∀ p H', Same H H' → H' p = some (tp (dX m)) → Q (.ref p) H'
theorem ok_law_by_x (T : Facts K mg) : FnOk P w K mg base CX0 1 T.f_law_by_x T.fd_law_by_x ["_law_form_here"] spByX := by
  refine T.F_law_by_x.ok sc_law_by_x (fun vs H Q E h => ?_) (fun cdv A outer s H vs Q E hr h => ?_)
  · obtain ⟨a, m, rfl, _⟩ := h
    rfl
  · obtain ⟨a, m, rfl, ha, h1, h2, sm1, q⟩ := h
    refine ⟨_, (PSs.nox (pss_one (ps_ret (pe_tupleOf (by rfl) T.z_tuple (pe_lc (own := [("_law_at", 1), ("_law_entry", 2)]) (g := (gTup K 2 (gCons (gName 1) (gCons (gName 2) gNil)))) (tt := tYes) (by rfl) sc_law_by_x.nd (pi_enumT (by rfl) T.z_enumerate (pa_cons (pe_slice sl_tupA (pv 0) po_none (po_some (pe_un un_neg pe_int))) pa_nil)) (blkOk_by (N := N_law_by_x) (sc := defScope s_law_by_x) (by decide +kernel)) (fun _ _ _ _ _ => (pg_tup (by rfl) (pgs_cons (pg_name (i := 1) sc_law_by_x.nd rfl (.inl rfl)) (pgs_cons (pg_name (i := 2) sc_law_by_x.nd rfl (.inl rfl)) pgs_nil)))) (fun _ _ _ _ _ => pts_nil) (fun _ _ _ _ _ => (pe_op op_mulW (pv 2) (pe_op op_sub (pe_op op_sub (pe_callB (call_len_seq : CallR _ _ (Evl.rLenS K)) (by rfl) T.z_len (by decide +kernel) (pa_cons (pv 0) pa_nil)) pe_int) (pv 1))))))))), ?_⟩
    refine ⟨_, rfl, _, rfl, _, rfl, a, _, rfl, SqT.of ha, fun z => absurd z.2 (by rw [List.length_map, sIx_neg (by omega)]; omega), fun _ p np => ?_⟩
    rw [ecut_init (by omega)]
    refine gen_upd H p _ np fun H2 s2 f2 => ⟨p, _, rfl, SqT.of f2, fun D hD => lc_enumT (xs := (m.take (m.length - 1)).map V.int) (fun k H' => Same H2 H' ∧ H' D = some (.lst (tab k fun k => co m k * ((m.length : Int) - 1 - k)))) ⟨same_upd0 hD, upd_same⟩ (fun k H' _ hP => SqT.of (hP.1 _ _ f2)) (fun k x B H' hx hP hB => ?_) (fun H3 hP => ?_)⟩
    · obtain ⟨sH, hL⟩ := hP
      obtain ⟨hk, rfl⟩ := int_get hx
      rw [List.length_take] at hk
      rw [co_take (by omega)]
      refine gen_upd H' B _ hB fun H4 s4 f4 => ⟨B, _, rfl, SqT.of f4, rfl, _, _, rfl, _, _, rfl, rfl, rfl, ?_⟩
      have hfB := (s2.trans (sH.trans s4)) _ _ ha
      refine ⟨_, rfl, _, rfl, a, _, rfl, .inr (SqT.of hfB), ?_⟩
      rw [List.length_map]
      refine ⟨_, _, rfl, rfl, _, rfl, _, _, rfl, rfl, _, _, rfl, rfl, sm_mul (sm_co sm1 (by omega)) (Nat.lt_of_le_of_lt (show ((m.length : Int) - 1 - (k : Int)).natAbs ≤ 100 by omega) (Nat.lt_of_lt_of_le (show 100 < 2 ^ 7 by decide) (Nat.pow_le_pow_right (by decide) (by decide)))), _, s4 _ _ hL, ?_, fun b o e => ?_, ?_⟩
      · rw [tab_len]
        exact small1000 (by omega)
      · rw [upd_ne (ne_of_none e hD)]
        exact s4 _ _ (sH _ _ e)
      · rw [upd_same, ← tab_snoc]
    · obtain ⟨sH, hL⟩ := hP
      rw [List.length_map, List.length_take, Nat.min_eq_left (by omega), tab_tb] at hL
      exact .inl ⟨D, _, rfl, SqL.of hL, fun p5 n5 => q p5 _ (s2.trans (sH.trans (same_upd0 n5))) upd_same⟩
def spByY : Sp := fun vs H Q _ => ∃ (a : Addr) (m : List Int), vs = [.ref a] ∧ H a = some (tp m) ∧ 1 ≤ m.length ∧ m.length ≤ 100 ∧ (∀ z ∈ m, sm z) ∧ ∀ p H', Same H H' → H' p = some (tp (dY m)) → Q (.ref p) H'
theorem ok_law_by_y (T : Facts K mg) : FnOk P w K mg base CX0 1 T.f_law_by_y T.fd_law_by_y ["_law_form_here"] spByY := by
  refine T.F_law_by_y.ok sc_law_by_y (fun vs H Q E h => ?_) (fun cdv A outer s H vs Q E hr h => ?_)
  · obtain ⟨a, m, rfl, _⟩ := h
    rfl
  · obtain ⟨a, m, rfl, ha, h1, h2, sm1, q⟩ := h
    refine ⟨_, (PSs.nox (pss_one (ps_ret (pe_tupleOf (by rfl) T.z_tuple (pe_lc (own := [("_law_at", 1), ("_law_entry", 2)]) (g := (gTup K 2 (gCons (gName 1) (gCons (gName 2) gNil)))) (tt := tYes) (by rfl) sc_law_by_y.nd (pi_enumT (by rfl) T.z_enumerate (pa_cons (pe_slice sl_tupA (pv 0) (po_some pe_int) po_none) pa_nil)) (blkOk_by (N := N_law_by_y) (sc := defScope s_law_by_y) (by decide +kernel)) (fun _ _ _ _ _ => (pg_tup (by rfl) (pgs_cons (pg_name (i := 1) sc_law_by_y.nd rfl (.inl rfl)) (pgs_cons (pg_name (i := 2) sc_law_by_y.nd rfl (.inl rfl)) pgs_nil)))) (fun _ _ _ _ _ => pts_nil) (fun _ _ _ _ _ => (pe_op op_mulW (pv 2) (pe_op op_add (pv 1) pe_int)))))))), ?_⟩
    refine ⟨_, rfl, 1, rfl, a, _, rfl, SqT.of ha, fun z => absurd z.1 (by
      rw [List.length_map]
      unfold HT.sIx
      simp only []
      split <;> omega), fun _ p np => ?_⟩
    rw [ecut_tail (by omega)]
    refine gen_upd H p _ np fun H2 s2 f2 => ⟨p, _, rfl, SqT.of f2, fun D hD => lc_enumT (xs := (m.drop 1).map V.int) (fun k H' => Same H2 H' ∧ H' D = some (.lst (tab k fun k => co m (k + 1) * ((k : Int) + 1)))) ⟨same_upd0 hD, upd_same⟩ (fun k H' _ hP => SqT.of (hP.1 _ _ f2)) (fun k x B H' hx hP hB => ?_) (fun H3 hP => ?_)⟩
    · obtain ⟨sH, hL⟩ := hP
      obtain ⟨hk, rfl⟩ := int_get hx
      rw [List.length_drop] at hk
      rw [co_drop1]
      refine gen_upd H' B _ hB fun H4 s4 f4 => ⟨B, _, rfl, SqT.of f4, rfl, _, _, rfl, _, _, rfl, rfl, rfl, ?_⟩
      refine ⟨_, rfl, _, rfl, _, _, rfl, rfl, _, _, rfl, rfl, sm_mul (sm_co sm1 (by omega)) (Nat.lt_of_le_of_lt (show ((k : Int) + 1).natAbs ≤ 100 by omega) (Nat.lt_of_lt_of_le (show 100 < 2 ^ 7 by decide) (Nat.pow_le_pow_right (by decide) (by decide)))), _, s4 _ _ hL, ?_, fun b o e => ?_, ?_⟩
      · rw [tab_len]
        exact small1000 (by omega)
      · rw [upd_ne (ne_of_none e hD)]
        exact s4 _ _ (sH _ _ e)
      · rw [upd_same, ← tab_snoc]
    · obtain ⟨sH, hL⟩ := hP
      rw [List.length_map, List.length_drop, tab_tb] at hL
      exact .inl ⟨D, _, rfl, SqL.of hL, fun p5 n5 => q p5 _ (s2.trans (sH.trans (same_upd0 n5))) upd_same⟩
theorem ok_law_derived (T : Facts K mg) : FnOk P w K mg base CX0 2 T.f_law_derived T.fd_law_derived ["_law_form_here", "_law_one", "_law_other"] spDerived := by
  have G_law_by_x := ok_law_by_x (P := P) (w := w) (base := base) T
  have G_law_by_y := ok_law_by_y (P := P) (w := w) (base := base) T
  refine T.F_law_derived.ok sc_law_derived (fun vs H Q E h => ?_) (fun cdv A outer s H vs Q E hr h => ?_)
  · obtain ⟨a, l, i, j, rfl, _⟩ := h
    rfl
  · obtain ⟨a, l, i, j, rfl, ha, ok, q⟩ := h
    have hlen := ok.len
    have hle := ok.le
    refine ⟨_, (PSs.nox (pss_cons (ps_for PassesOwn.never (by rfl) (pi_range1 (by rfl) T.z_range (pa_cons (pv 1) pa_nil)) (pg_name (i := 3) sc_law_derived.nd rfl (.inl rfl))
      (pss_one (ps_set (i := 0) sc_law_derived.nd rfl (.inl rfl) (pe_call G_law_by_x hr (by rfl) T.g_law_by_x T.F_law_by_x.kp T.b_law_by_x .nil pass0 (pa_cons (pv 0) pa_nil)))))
    (pss_cons (ps_for PassesOwn.never (by rfl) (pi_range1 (by rfl) T.z_range (pa_cons (pv 2) pa_nil)) (pg_name (i := 3) sc_law_derived.nd rfl (.inl rfl))
      (pss_one (ps_set (i := 0) sc_law_derived.nd rfl (.inl rfl) (pe_call G_law_by_y hr (by rfl) T.g_law_by_y T.F_law_by_y.kp T.b_law_by_y .nil pass0 (pa_cons (pv 0) pa_nil)))))
    (pss_one (ps_ret (pv 0)))))), ?_⟩
    refine ⟨_, rfl, i, rfl, by omega, by omega, for_range (n := (i : Int).toNat) (fun u σ H' => ∃ fa y3, σ = [some (.ref fa), some (.int i), some (.int j), y3] ∧ Same H H' ∧ H' fa = some (tp (it dX u l))) ⟨a, none, rfl, Same.rf H, ha⟩ (fun u σ H1 hu hP => ?_) (fun σ H1 hP => ?_)⟩
    · obtain ⟨fa, y3, rfl, s1, hf⟩ := hP
      have lu := dX_it_len l u
      exact ⟨_, rfl, fa, _, rfl, hf, by omega, by omega, ok.sx u (by omega), fun p H2 s2 hp => ⟨p, _, rfl, s1.trans s2, hp⟩⟩
    · obtain ⟨fa, y3, rfl, s1, hf⟩ := hP
      rw [Int.toNat_natCast] at hf
      have lu0 := dX_it_len l i
      refine ⟨_, rfl, j, rfl, by omega, by omega, for_range (n := (j : Int).toNat) (fun u σ H' => ∃ fa y3, σ = [some (.ref fa), some (.int i), some (.int j), y3] ∧ Same H H' ∧ H' fa = some (tp (it dY u (it dX i l)))) ⟨fa, y3, rfl, s1, hf⟩ (fun u σ H1 hu hP => ?_) (fun σ H1 hP => ?_)⟩
      · obtain ⟨fa, y3, rfl, s1, hf⟩ := hP
        have lu := dY_it_len (it dX i l) u
        exact ⟨_, rfl, fa, _, rfl, hf, by omega, by omega, ok.sy u (by omega), fun p H2 s2 hp => ⟨p, _, rfl, s1.trans s2, hp⟩⟩
      · obtain ⟨fa, y3, rfl, s1, hf⟩ := hP
        rw [Int.toNat_natCast] at hf
        exact ⟨_, rfl, q fa H1 s1 hf⟩
/-- all that the law makes on its way is let -/
structure LchOk (X Y l : List Int) : Prop where
  ne : l ≠ []
  len : l.length ≤ 90
  lX : X.length = 2
  lY : Y.length = 2
  pX : ∀ i, i ≤ l.length → Rw (pow X i)
  pY : ∀ i, i ≤ l.length → Rw (pow Y i)
  pm : ∀ i, i < l.length → Rw (ml (pow X (l.length - 1 - i)) (pow Y i))
  sl : ∀ z ∈ l, sm z
end
end K52

set_option Elab.async false
set_option linter.all false
set_option maxRecDepth 100000
set_option maxHeartbeats 4000000
namespace K52
open PySem PySem.Spec PyProof.Rows L2 StX RZ MyR SlX OwnR OwnF EnumT
section
variable {P : Program} {w : World} {K : PySem.W.Frag} {mg : Str → Option Value} {base : Heap}
theorem sm_le {x : Int} {n : Nat} (h : x.natAbs ≤ n) (hn : n < 2 ^ 60) : sm x := Nat.lt_of_le_of_lt h (Nat.lt_of_lt_of_le hn (Nat.pow_le_pow_right (by decide) (by decide)))
end
end K52

set_option Elab.async false
set_option linter.all false
set_option maxRecDepth 100000
/-! layings: the plain law -/
namespace K52
theorem evF_cons (g : Nat → Int) (x y : Int) : ∀ m, evF (m + 1) g x y = g 0 * x ^ m + y * evF m (fun k => g (k + 1)) x y
  | 0 => by
    show x * 0 + g 0 * y ^ 0 = g 0 * x ^ 0 + y * 0
    rw [Int.pow_zero, Int.pow_zero]
    grind
  | m + 1 => by
    show x * evF (m + 1) g x y + g (m + 1) * y ^ (m + 1) = g 0 * x ^ (m + 1) + y * (x * evF m (fun k => g (k + 1)) x y + g (m + 1) * y ^ m)
    rw [evF_cons g x y m, Int.pow_succ, Int.pow_succ]
    generalize evF m (fun k => g (k + 1)) x y = w
    generalize x ^ m = A
    generalize y ^ m = B
    grind
theorem ev_tb (n : Nat) (f : Nat → Int) (x y : Int) : ev (tb n f) x y = evF n f x y := by
  unfold ev
  rw [tb_len]
  exact evF_congr _ fun i hi => by rw [co_tb, if_pos hi]
theorem ev_dX (l : List Int) (x y : Int) : ev (dX l) x y = evF (l.length - 1) (fun k => co l k * ((l.length : Int) - 1 - k)) x y := ev_tb _ _ x y
theorem ev_dY (l : List Int) (x y : Int) : ev (dY l) x y = evF (l.length - 1) (fun k => co l (k + 1) * ((k : Int) + 1)) x y := ev_tb _ _ x y
theorem ev_dX_cons (a : Int) (l : List Int) (x y : Int) : ev (dX (a :: l)) x y = a * l.length * x ^ (l.length - 1) + y * ev (dX l) x y := by
  rw [ev_dX, ev_dX]
  show evF (l.length + 1 - 1) _ x y = _
  rw [Nat.add_sub_cancel]
  cases hl : l.length with
  | zero =>
    show (0 : Int) = a * 0 * _ + y * 0
    grind
  | succ m =>
    rw [evF_cons]
    rw [show evF m (fun k => co (a :: l) (k + 1) * (((a :: l).length : Int) - 1 - ((k + 1 : Nat) : Int))) x y = evF (m + 1 - 1) (fun k => co l k * (((m + 1 : Nat) : Int) - 1 - k)) x y from by
      rw [Nat.add_sub_cancel]
      refine evF_congr _ fun k _ => ?_
      show co l k * (((a :: l).length : Int) - 1 - ((k + 1 : Nat) : Int)) = _
      congr 1
      rw [List.length_cons, hl]
      omega]
    show a * (((a :: l).length : Int) - 1 - ((0 : Nat) : Int)) * x ^ m + _ = _
    rw [List.length_cons, hl, Nat.add_sub_cancel, show (((m + 1 + 1 : Nat)) : Int) - 1 - ((0 : Nat) : Int) = ((m + 1 : Nat) : Int) by omega]
theorem ev_dY_cons (a : Int) (l : List Int) (x y : Int) : ev (dY (a :: l)) x y = ev l x y + y * ev (dY l) x y := by
  rw [ev_dY, ev_dY]
  show evF (l.length + 1 - 1) (fun k => co l k * ((k : Int) + 1)) x y = _
  rw [Nat.add_sub_cancel]
  have e1 : evF l.length (fun k => co l k * ((k : Int) + 1)) x y = ev l x y + evF l.length (fun k => co l k * (k : Int)) x y := by
    unfold ev
    rw [← evF_add]
    exact evF_congr _ fun k _ => by grind
  rw [e1]
  congr 1
  cases hl : l.length with
  | zero =>
    show (0 : Int) = y * 0
    rw [Int.mul_zero]
  | succ m =>
    rw [evF_cons, Nat.add_sub_cancel]
    show co l 0 * ((0 : Nat) : Int) * x ^ m + y * evF m (fun k => co l (k + 1) * ((k + 1 : Nat) : Int)) x y = _
    rw [show evF m (fun k => co l (k + 1) * ((k + 1 : Nat) : Int)) x y = evF m (fun k => co l (k + 1) * ((k : Int) + 1)) x y from evF_congr _ fun k _ => by rw [show ((k + 1 : Nat) : Int) = (k : Int) + 1 by omega]]
    show co l 0 * 0 * x ^ m + _ = _
    grind
/-- a step along a line: up to squares it is told by the derivatives -/
theorem pow_step (x u h : Int) : ∀ n : Nat, ∃ R, (x + u * h) ^ n = x ^ n + h * (u * (n * x ^ (n - 1))) + h * h * R
  | 0 => ⟨0, by rw [Int.pow_zero, Int.pow_zero]; show (1 : Int) = 1 + h * (u * (0 * _)) + h * h * 0; grind⟩
  | 1 => ⟨0, by
    rw [Int.pow_succ, Int.pow_zero, Int.pow_succ, Int.pow_zero]
    show 1 * (x + u * h) = 1 * x + h * (u * (1 * 1)) + h * h * 0
    grind⟩
  | n + 2 => by
    obtain ⟨R, e⟩ := pow_step x u h (n + 1)
    refine ⟨u * u * ((n + 1 : Nat) * x ^ n) + R * (x + u * h), ?_⟩
    rw [Int.pow_succ, e, show n + 1 - 1 = n by omega, show n + 2 - 1 = n + 1 by omega, Int.pow_succ x (n + 1), Int.pow_succ x n, show ((n + 2 : Nat) : Int) = ((n + 1 : Nat) : Int) + 1 by omega]
    generalize x ^ n = A
    generalize ((n + 1 : Nat) : Int) = N
    grind
theorem ev_step (x y u v h : Int) : ∀ l : List Int, ∃ R, ev l (x + u * h) (y + v * h) = ev l x y + h * (u * ev (dX l) x y + v * ev (dY l) x y) + h * h * R
  | [] => ⟨0, by
    show (0 : Int) = 0 + h * (u * ev (dX []) x y + v * ev (dY []) x y) + h * h * 0
    rw [show ev (dX []) x y = 0 from rfl, show ev (dY []) x y = 0 from rfl]
    grind⟩
  | a :: l => by
    obtain ⟨R, e⟩ := ev_step x y u v h l
    obtain ⟨S, e2⟩ := pow_step x u h l.length
    refine ⟨a * S + v * (u * ev (dX l) x y + v * ev (dY l) x y) + (y + v * h) * R, ?_⟩
    rw [ev_cons, ev_cons, ev_dX_cons, ev_dY_cons, e, e2]
    generalize ev (dX l) x y = EX
    generalize ev (dY l) x y = EY
    generalize ev l x y = E
    generalize x ^ (l.length - 1) = A
    generalize x ^ l.length = B
    generalize (l.length : Int) = n
    grind
theorem step_eq {p q : Int} (H : ∀ h : Int, ∃ R, h * p = h * q + h * h * R) : p = q := by
  obtain ⟨R, e⟩ := H (((p - q).natAbs + 1 : Nat) : Int)
  have hp : (((p - q).natAbs + 1 : Nat) : Int) ≠ 0 := by omega
  have e2 : p = q + (((p - q).natAbs + 1 : Nat) : Int) * R := by
    refine Int.eq_of_mul_eq_mul_left hp ?_
    rw [Int.mul_add, ← Int.mul_assoc]
    exact e
  have hd : (((p - q).natAbs + 1 : Nat) : Int) ∣ p - q := ⟨R, by omega⟩
  have hz := Nat.eq_zero_of_dvd_of_lt (Int.natAbs_dvd_natAbs.mpr hd) (by rw [Int.natAbs_natCast]; omega)
  omega
theorem map_len (c : Int) (l : List Int) : (l.map (c * ·)).length = l.length := List.length_map ..
theorem dX_ne {l : List Int} (h : 2 ≤ l.length) : dX l ≠ [] := fun z => by have := dX_len l; rw [z] at this; have : 0 = l.length - 1 := this; omega
theorem dY_ne {l : List Int} (h : 2 ≤ l.length) : dY l ≠ [] := fun z => by have := dY_len l; rw [z] at this; have : 0 = l.length - 1 := this; omega
theorem ne_of2 {l : List Int} (h : 1 ≤ l.length) : l ≠ [] := List.length_pos_iff.mp h
/-- the rule of the chain -/
theorem dX_changed {a b c e : Int} {l : List Int} (h : 2 ≤ l.length) : dX (changed [a, b] [c, e] l) = zs 1 ((changed [a, b] [c, e] (dX l)).map (a * ·)) ((changed [a, b] [c, e] (dY l)).map (c * ·)) := by
  have nl := ne_of2 (show 1 ≤ l.length by omega)
  have l0 := changed_len (X := [a, b]) (Y := [c, e]) rfl rfl nl
  have l1 := changed_len (X := [a, b]) (Y := [c, e]) rfl rfl (dX_ne h)
  have l2 := changed_len (X := [a, b]) (Y := [c, e]) rfl rfl (dY_ne h)
  rw [dX_len] at l1
  rw [dY_len] at l2
  refine ev_inj (by rw [dX_len, l0, zs_len (by rw [map_len, map_len, l1, l2]), map_len, l1]) fun x y => step_eq fun k => ?_
  obtain ⟨R, e1⟩ := ev_step x y 1 0 k (changed [a, b] [c, e] l)
  obtain ⟨S, e2⟩ := ev_step (a * x + b * y) (c * x + e * y) a c k l
  rw [ev_changed rfl rfl nl, ev_changed rfl rfl nl, ev2, ev2, ev2, ev2] at e1
  rw [show a * (x + 1 * k) + b * (y + 0 * k) = a * x + b * y + a * k by grind, show c * (x + 1 * k) + e * (y + 0 * k) = c * x + e * y + c * k by grind, e2] at e1
  refine ⟨S - R, ?_⟩
  rw [ev_zs 1 (by rw [map_len, map_len, l1, l2]), ev_map, ev_map, ev_changed rfl rfl (dX_ne h), ev_changed rfl rfl (dY_ne h), ev2, ev2]
  grind
theorem dY_changed {a b c e : Int} {l : List Int} (h : 2 ≤ l.length) : dY (changed [a, b] [c, e] l) = zs 1 ((changed [a, b] [c, e] (dX l)).map (b * ·)) ((changed [a, b] [c, e] (dY l)).map (e * ·)) := by
  have nl := ne_of2 (show 1 ≤ l.length by omega)
  have l0 := changed_len (X := [a, b]) (Y := [c, e]) rfl rfl nl
  have l1 := changed_len (X := [a, b]) (Y := [c, e]) rfl rfl (dX_ne h)
  have l2 := changed_len (X := [a, b]) (Y := [c, e]) rfl rfl (dY_ne h)
  rw [dX_len] at l1
  rw [dY_len] at l2
  refine ev_inj (by rw [dY_len, l0, zs_len (by rw [map_len, map_len, l1, l2]), map_len, l1]) fun x y => step_eq fun k => ?_
  obtain ⟨R, e1⟩ := ev_step x y 0 1 k (changed [a, b] [c, e] l)
  obtain ⟨S, e2⟩ := ev_step (a * x + b * y) (c * x + e * y) b e k l
  rw [ev_changed rfl rfl nl, ev_changed rfl rfl nl, ev2, ev2, ev2, ev2] at e1
  rw [show a * (x + 0 * k) + b * (y + 1 * k) = a * x + b * y + b * k by grind, show c * (x + 0 * k) + e * (y + 1 * k) = c * x + e * y + e * k by grind, e2] at e1
  refine ⟨S - R, ?_⟩
  rw [ev_zs 1 (by rw [map_len, map_len, l1, l2]), ev_map, ev_map, ev_changed rfl rfl (dX_ne h), ev_changed rfl rfl (dY_ne h), ev2, ev2]
  grind
/-! ### the laying -/
def L : Nat → List Int → List Int → List Int
  | 0, f, g => ml f g
  | t + 1, f, g => zs (-1) (L t (dX f) (dY g)) (L t (dY f) (dX g))
theorem L_len : ∀ (t : Nat) (f g : List Int), t + 1 ≤ f.length → t + 1 ≤ g.length → (L t f g).length = f.length + g.length - 1 - 2 * t
  | 0, f, g, _, _ => ml_len f g
  | t + 1, f, g, hf, hg => by
    have h1 := L_len t (dX f) (dY g) (by rw [dX_len]; omega) (by rw [dY_len]; omega)
    have h2 := L_len t (dY f) (dX g) (by rw [dY_len]; omega) (by rw [dX_len]; omega)
    rw [dX_len, dY_len] at h1
    rw [dX_len, dY_len] at h2
    show (zs (-1) (L t (dX f) (dY g)) (L t (dY f) (dX g))).length = _
    rw [zs_len (by rw [h1, h2]), h1]
    omega
theorem ev_L_succ {t : Nat} {f g : List Int} (hf : t + 2 ≤ f.length) (hg : t + 2 ≤ g.length) (x y : Int) : ev (L (t + 1) f g) x y = ev (L t (dX f) (dY g)) x y - ev (L t (dY f) (dX g)) x y := by
  have h1 := L_len t (dX f) (dY g) (by rw [dX_len]; omega) (by rw [dY_len]; omega)
  have h2 := L_len t (dY f) (dX g) (by rw [dY_len]; omega) (by rw [dX_len]; omega)
  rw [dX_len, dY_len] at h1
  rw [dX_len, dY_len] at h2
  show ev (zs (-1) (L t (dX f) (dY g)) (L t (dY f) (dX g))) x y = _
  rw [ev_zs (-1) (by rw [h1, h2])]
  omega
theorem dX_zs' (c : Int) {l m : List Int} (h : l.length = m.length) : dX (zs c l m) = zs c (dX l) (dX m) := by
  refine co_inj (by rw [dX_len, zs_len h, zs_len (by rw [dX_len, dX_len, h]), dX_len]) fun k => ?_
  rw [co_zs' c (by rw [dX_len, dX_len, h])]
  unfold dX
  rw [co_tb, co_tb, co_tb, zs_len h, ← h, co_zs' c h]
  by_cases d : k < l.length - 1
  · rw [if_pos d, if_pos d, if_pos d]
    grind
  · rw [if_neg d, if_neg d, if_neg d]
    grind
theorem dY_zs' (c : Int) {l m : List Int} (h : l.length = m.length) : dY (zs c l m) = zs c (dY l) (dY m) := by
  refine co_inj (by rw [dY_len, zs_len h, zs_len (by rw [dY_len, dY_len, h]), dY_len]) fun k => ?_
  rw [co_zs' c (by rw [dY_len, dY_len, h])]
  unfold dY
  rw [co_tb, co_tb, co_tb, zs_len h, ← h, co_zs' c h]
  by_cases d : k < l.length - 1
  · rw [if_pos d, if_pos d, if_pos d]
    grind
  · rw [if_neg d, if_neg d, if_neg d]
    grind
/-- a laying is a sum in both -/
theorem L_zsl (c : Int) (x y : Int) : ∀ (t : Nat) (f f' g : List Int), f.length = f'.length → t + 1 ≤ f.length → t + 1 ≤ g.length → ev (L t (zs c f f') g) x y = ev (L t f g) x y + c * ev (L t f' g) x y
  | 0, f, f', g, h, hf, hg => by
    have n1 : zs c f f' ≠ [] := ne_of2 (by rw [zs_len h]; omega)
    show ev (ml (zs c f f') g) x y = ev (ml f g) x y + c * ev (ml f' g) x y
    rw [ev_ml n1 (ne_of2 hg), ev_ml (ne_of2 hf) (ne_of2 hg), ev_ml (ne_of2 (by omega)) (ne_of2 hg), ev_zs c h]
    grind
  | t + 1, f, f', g, h, hf, hg => by
    rw [ev_L_succ (by rw [zs_len h]; omega) (by omega), ev_L_succ (by omega) (by omega), ev_L_succ (by omega) (by omega), dX_zs' c h, dY_zs' c h,
      L_zsl c x y t _ _ _ (by rw [dX_len, dX_len, h]) (by rw [dX_len]; omega) (by rw [dY_len]; omega), L_zsl c x y t _ _ _ (by rw [dY_len, dY_len, h]) (by rw [dY_len]; omega) (by rw [dX_len]; omega)]
    grind
theorem L_zsr (c : Int) (x y : Int) : ∀ (t : Nat) (f g g' : List Int), g.length = g'.length → t + 1 ≤ f.length → t + 1 ≤ g.length → ev (L t f (zs c g g')) x y = ev (L t f g) x y + c * ev (L t f g') x y
  | 0, f, g, g', h, hf, hg => by
    have n1 : zs c g g' ≠ [] := ne_of2 (by rw [zs_len h]; omega)
    show ev (ml f (zs c g g')) x y = ev (ml f g) x y + c * ev (ml f g') x y
    rw [ev_ml (ne_of2 hf) n1, ev_ml (ne_of2 hf) (ne_of2 hg), ev_ml (ne_of2 hf) (ne_of2 (by omega)), ev_zs c h]
    grind
  | t + 1, f, g, g', h, hf, hg => by
    rw [ev_L_succ (by omega) (by rw [zs_len h]; omega), ev_L_succ (by omega) (by omega), ev_L_succ (by omega) (by omega), dX_zs' c h, dY_zs' c h,
      L_zsr c x y t _ _ _ (by rw [dY_len, dY_len, h]) (by rw [dX_len]; omega) (by rw [dY_len]; omega), L_zsr c x y t _ _ _ (by rw [dX_len, dX_len, h]) (by rw [dY_len]; omega) (by rw [dX_len]; omega)]
    grind
theorem dX_map (c : Int) (l : List Int) : dX (l.map (c * ·)) = (dX l).map (c * ·) := by
  refine co_inj (by rw [dX_len, map_len, map_len, dX_len]) fun k => ?_
  rw [co_map]
  unfold dX
  rw [co_tb, co_tb, map_len, co_map]
  by_cases d : k < l.length - 1
  · rw [if_pos d, if_pos d]
    grind
  · rw [if_neg d, if_neg d]
    grind
theorem dY_map (c : Int) (l : List Int) : dY (l.map (c * ·)) = (dY l).map (c * ·) := by
  refine co_inj (by rw [dY_len, map_len, map_len, dY_len]) fun k => ?_
  rw [co_map]
  unfold dY
  rw [co_tb, co_tb, map_len, co_map]
  by_cases d : k < l.length - 1
  · rw [if_pos d, if_pos d]
    grind
  · rw [if_neg d, if_neg d]
    grind
theorem L_mapl (c : Int) (x y : Int) : ∀ (t : Nat) (f g : List Int), t + 1 ≤ f.length → t + 1 ≤ g.length → ev (L t (f.map (c * ·)) g) x y = c * ev (L t f g) x y
  | 0, f, g, hf, hg => by
    show ev (ml (f.map (c * ·)) g) x y = c * ev (ml f g) x y
    rw [ev_ml (ne_of2 (by rw [map_len]; omega)) (ne_of2 hg), ev_ml (ne_of2 hf) (ne_of2 hg), ev_map]
    grind
  | t + 1, f, g, hf, hg => by
    rw [ev_L_succ (by rw [map_len]; omega) (by omega), ev_L_succ (by omega) (by omega), dX_map, dY_map, L_mapl c x y t _ _ (by rw [dX_len]; omega) (by rw [dY_len]; omega), L_mapl c x y t _ _ (by rw [dY_len]; omega) (by rw [dX_len]; omega)]
    grind
theorem L_mapr (c : Int) (x y : Int) : ∀ (t : Nat) (f g : List Int), t + 1 ≤ f.length → t + 1 ≤ g.length → ev (L t f (g.map (c * ·))) x y = c * ev (L t f g) x y
  | 0, f, g, hf, hg => by
    show ev (ml f (g.map (c * ·))) x y = c * ev (ml f g) x y
    rw [ev_ml (ne_of2 hf) (ne_of2 (by rw [map_len]; omega)), ev_ml (ne_of2 hf) (ne_of2 hg), ev_map]
    grind
  | t + 1, f, g, hf, hg => by
    rw [ev_L_succ (by omega) (by rw [map_len]; omega), ev_L_succ (by omega) (by omega), dX_map, dY_map, L_mapr c x y t _ _ (by rw [dX_len]; omega) (by rw [dY_len]; omega), L_mapr c x y t _ _ (by rw [dY_len]; omega) (by rw [dX_len]; omega)]
    grind
/-- laid the other way round -/
theorem L_swap (x y : Int) : ∀ (t : Nat) (f g : List Int), t + 1 ≤ f.length → t + 1 ≤ g.length → ev (L t g f) x y = (-1) ^ t * ev (L t f g) x y
  | 0, f, g, hf, hg => by
    show ev (ml g f) x y = 1 * ev (ml f g) x y
    rw [ml_comm, Int.one_mul]
  | t + 1, f, g, hf, hg => by
    rw [ev_L_succ (by omega) (by omega), ev_L_succ (by omega) (by omega), L_swap x y t (dY f) (dX g) (by rw [dY_len]; omega) (by rw [dX_len]; omega), L_swap x y t (dX f) (dY g) (by rw [dX_len]; omega) (by rw [dY_len]; omega), Int.pow_succ]
    grind
/-- laid after a change -/
theorem L_changed {a b c e : Int} (x y : Int) : ∀ (t : Nat) (f g : List Int), t + 1 ≤ f.length → t + 1 ≤ g.length →
    ev (L t (changed [a, b] [c, e] f) (changed [a, b] [c, e] g)) x y = (a * e - b * c) ^ t * ev (L t f g) (a * x + b * y) (c * x + e * y)
  | 0, f, g, hf, hg => by
    have l1 := changed_len (X := [a, b]) (Y := [c, e]) rfl rfl (ne_of2 hf)
    have l2 := changed_len (X := [a, b]) (Y := [c, e]) rfl rfl (ne_of2 hg)
    rw [Int.pow_zero, Int.one_mul]
    show ev (ml (changed [a, b] [c, e] f) (changed [a, b] [c, e] g)) x y = ev (ml f g) _ _
    rw [ev_ml (ne_of2 (by omega)) (ne_of2 (by omega)), ev_ml (ne_of2 hf) (ne_of2 hg), ev_changed rfl rfl (ne_of2 hf), ev_changed rfl rfl (ne_of2 hg), ev2, ev2]
  | t + 1, f, g, hf, hg => by
    have l1 := changed_len (X := [a, b]) (Y := [c, e]) rfl rfl (ne_of2 (show 1 ≤ f.length by omega))
    have l2 := changed_len (X := [a, b]) (Y := [c, e]) rfl rfl (ne_of2 (show 1 ≤ g.length by omega))
    have lfx := changed_len (X := [a, b]) (Y := [c, e]) rfl rfl (dX_ne (l := f) (by omega))
    have lfy := changed_len (X := [a, b]) (Y := [c, e]) rfl rfl (dY_ne (l := f) (by omega))
    have lgx := changed_len (X := [a, b]) (Y := [c, e]) rfl rfl (dX_ne (l := g) (by omega))
    have lgy := changed_len (X := [a, b]) (Y := [c, e]) rfl rfl (dY_ne (l := g) (by omega))
    rw [dX_len] at lfx lgx
    rw [dY_len] at lfy lgy
    rw [ev_L_succ (by omega) (by omega), ev_L_succ (by omega) (by omega), dX_changed (l := f) (by omega), dY_changed (l := f) (by omega), dX_changed (l := g) (by omega), dY_changed (l := g) (by omega)]
    have two : ∀ (p q r s : Int), ev (L t (zs 1 ((changed [a, b] [c, e] (dX f)).map (p * ·)) ((changed [a, b] [c, e] (dY f)).map (q * ·))) (zs 1 ((changed [a, b] [c, e] (dX g)).map (r * ·)) ((changed [a, b] [c, e] (dY g)).map (s * ·)))) x y =
        p * r * ((a * e - b * c) ^ t * ev (L t (dX f) (dX g)) (a * x + b * y) (c * x + e * y)) + p * s * ((a * e - b * c) ^ t * ev (L t (dX f) (dY g)) (a * x + b * y) (c * x + e * y)) +
        q * r * ((a * e - b * c) ^ t * ev (L t (dY f) (dX g)) (a * x + b * y) (c * x + e * y)) + q * s * ((a * e - b * c) ^ t * ev (L t (dY f) (dY g)) (a * x + b * y) (c * x + e * y)) := fun p q r s => by
      have ih1 := L_changed (a := a) (b := b) (c := c) (e := e) x y t (dX f) (dX g) (by rw [dX_len]; omega) (by rw [dX_len]; omega)
      have ih2 := L_changed (a := a) (b := b) (c := c) (e := e) x y t (dX f) (dY g) (by rw [dX_len]; omega) (by rw [dY_len]; omega)
      have ih3 := L_changed (a := a) (b := b) (c := c) (e := e) x y t (dY f) (dX g) (by rw [dY_len]; omega) (by rw [dX_len]; omega)
      have ih4 := L_changed (a := a) (b := b) (c := c) (e := e) x y t (dY f) (dY g) (by rw [dY_len]; omega) (by rw [dY_len]; omega)
      rw [L_zsl 1 x y t _ _ _ (by rw [map_len, map_len, lfx, lfy]) (by rw [map_len, lfx]; omega) (by rw [zs_len (by rw [map_len, map_len, lgx, lgy]), map_len, lgx]; omega),
        L_zsr 1 x y t _ _ _ (by rw [map_len, map_len, lgx, lgy]) (by rw [map_len, lfx]; omega) (by rw [map_len, lgx]; omega),
        L_zsr 1 x y t _ _ _ (by rw [map_len, map_len, lgx, lgy]) (by rw [map_len, lfy]; omega) (by rw [map_len, lgx]; omega),
        L_mapl p x y t _ _ (by rw [lfx]; omega) (by rw [map_len, lgx]; omega), L_mapl p x y t _ _ (by rw [lfx]; omega) (by rw [map_len, lgy]; omega),
        L_mapl q x y t _ _ (by rw [lfy]; omega) (by rw [map_len, lgx]; omega), L_mapl q x y t _ _ (by rw [lfy]; omega) (by rw [map_len, lgy]; omega),
        L_mapr r x y t _ _ (by rw [lfx]; omega) (by rw [lgx]; omega), L_mapr s x y t _ _ (by rw [lfx]; omega) (by rw [lgy]; omega),
        L_mapr r x y t _ _ (by rw [lfy]; omega) (by rw [lgx]; omega), L_mapr s x y t _ _ (by rw [lfy]; omega) (by rw [lgy]; omega), ih1, ih2, ih3, ih4]
      grind
    rw [two, two, Int.pow_succ]
    grind
/-! ### sums -/
def su : Nat → (Nat → Int) → Int
  | 0, _ => 0
  | n + 1, φ => su n φ + φ n
theorem su_congr {φ ψ : Nat → Int} : ∀ n, (∀ k, k < n → φ k = ψ k) → su n φ = su n ψ
  | 0, _ => rfl
  | n + 1, h => by
    show su n φ + φ n = su n ψ + ψ n
    rw [su_congr n fun k hk => h k (by omega), h n (by omega)]
theorem su_add (φ ψ : Nat → Int) : ∀ n, su n (fun k => φ k + ψ k) = su n φ + su n ψ
  | 0 => rfl
  | n + 1 => by
    show su n (fun k => φ k + ψ k) + (φ n + ψ n) = su n φ + φ n + (su n ψ + ψ n)
    rw [su_add φ ψ n]
    omega
theorem su_shift (φ : Nat → Int) : ∀ n, su (n + 1) φ = φ 0 + su n (fun k => φ (k + 1))
  | 0 => by show 0 + φ 0 = φ 0 + 0; omega
  | n + 1 => by
    show su (n + 1) φ + φ (n + 1) = φ 0 + (su n (fun k => φ (k + 1)) + φ (n + 1))
    rw [su_shift φ n]
    omega
/-- how many lots -/
def ch : Nat → Nat → Nat
  | _, 0 => 1
  | 0, _ + 1 => 0
  | n + 1, k + 1 => ch n k + ch n (k + 1)
theorem ch_zero (n : Nat) : ch n 0 = 1 := by cases n <;> rfl
theorem ch_far : ∀ n k : Nat, n < k → ch n k = 0
  | n, 0, h => absurd h (Nat.not_lt_zero n)
  | 0, k + 1, _ => rfl
  | n + 1, k + 1, h => by
    show ch n k + ch n (k + 1) = 0
    rw [ch_far n k (by omega), ch_far n (k + 1) (by omega)]
theorem ch_mul : ∀ n k : Nat, (ch n (k + 1) : Int) * ((k : Int) + 1) = ch n k * ((n : Int) - k)
  | 0, k => by
    show ((0 : Nat) : Int) * _ = _
    cases k with
    | zero => show (0 : Int) * _ = 1 * ((0 : Int) - 0); grind
    | succ k => show (0 : Int) * _ = (0 : Int) * _; grind
  | n + 1, 0 => by
    have h := ch_mul n 0
    rw [ch_zero] at h
    show ((ch n 0 + ch n (0 + 1) : Nat) : Int) * _ = ((ch (n + 1) 0 : Nat) : Int) * _
    rw [ch_zero, ch_zero, Int.natCast_add]
    have e : ((0 : Nat) : Int) = 0 := rfl
    rw [e] at h ⊢
    rw [show ((n + 1 : Nat) : Int) = (n : Int) + 1 by omega]
    grind
  | n + 1, k + 1 => by
    have h1 := ch_mul n (k + 1)
    have h2 := ch_mul n k
    show ((ch n (k + 1) + ch n (k + 1 + 1) : Nat) : Int) * _ = ((ch n k + ch n (k + 1) : Nat) : Int) * _
    rw [Int.natCast_add (ch n (k + 1)), Int.natCast_add (ch n k)]
    rw [show ((k + 1 : Nat) : Int) = (k : Int) + 1 by omega] at h1 ⊢
    rw [show ((n + 1 : Nat) : Int) = (n : Int) + 1 by omega]
    grind
/-- the sign of a place -/
def sgn (k : Nat) : Int := if k % 2 = 0 then 1 else -1
theorem sgn_succ (k : Nat) : sgn (k + 1) = -sgn k := by
  unfold sgn
  by_cases h : k % 2 = 0
  · rw [if_pos h, if_neg (by omega)]
  · rw [if_neg h, if_pos (by omega)]
    rfl
theorem sgn_pow : ∀ k : Nat, (-1 : Int) ^ k = sgn k
  | 0 => rfl
  | k + 1 => by
    rw [Int.pow_succ, sgn_pow k, sgn_succ]
    omega
theorem dXY (l : List Int) : dX (dY l) = dY (dX l) := by
  refine co_inj (by rw [dX_len, dY_len, dY_len, dX_len]) fun k => ?_
  have a1 : ∀ m : List Int, ∀ k, co (dX m) k = if k < m.length - 1 then co m k * ((m.length : Int) - 1 - k) else 0 := fun m k => co_tb k
  have a2 : ∀ m : List Int, ∀ k, co (dY m) k = if k < m.length - 1 then co m (k + 1) * ((k : Int) + 1) else 0 := fun m k => co_tb k
  rw [a1 (dY l), a2 (dX l), dX_len, dY_len, a1 l, a2 l]
  by_cases h : k < l.length - 1 - 1
  · rw [if_pos h, if_pos h, if_pos (by omega), if_pos (by omega)]
    rw [show ((k + 1 : Nat) : Int) = (k : Int) + 1 by omega, show ((l.length - 1 : Nat) : Int) = (l.length : Int) - 1 by omega]
    grind
  · rw [if_neg h, if_neg h]
theorem it_succ (f : List Int → List Int) (n : Nat) (l : List Int) : it f n (f l) = it f (n + 1) l := by
  induction n with
  | zero => rfl
  | succ n ih => show f (it f n (f l)) = f (it f (n + 1) l); rw [ih]
theorem dX_it_dY (l : List Int) : ∀ n, it dX n (dY l) = dY (it dX n l)
  | 0 => rfl
  | n + 1 => by
    show dX (it dX n (dY l)) = dY (dX (it dX n l))
    rw [dX_it_dY l n, dXY]
theorem dd_dX (i j : Nat) (l : List Int) : dd i j (dX l) = dd (i + 1) j l := by
  unfold dd
  rw [it_succ]
theorem dd_dY (i j : Nat) (l : List Int) : dd i j (dY l) = dd i (j + 1) l := by
  unfold dd
  rw [dX_it_dY, it_succ]
/-- a laying, as a sum -/
theorem L_sum (x y : Int) : ∀ (t : Nat) (f g : List Int), t + 1 ≤ f.length → t + 1 ≤ g.length →
    ev (L t f g) x y = su (t + 1) fun k => sgn k * ch t k * (ev (dd (t - k) k f) x y * ev (dd k (t - k) g) x y)
  | 0, f, g, hf, hg => by
    show ev (ml f g) x y = 0 + 1 * 1 * (ev f x y * ev g x y)
    rw [ev_ml (ne_of2 hf) (ne_of2 hg)]
    grind
  | t + 1, f, g, hf, hg => by
    rw [ev_L_succ (by omega) (by omega), L_sum x y t _ _ (by rw [dX_len]; omega) (by rw [dY_len]; omega), L_sum x y t _ _ (by rw [dY_len]; omega) (by rw [dX_len]; omega)]
    have T : ∃ T : Nat → Int, ∀ k, k ≤ t + 1 → T k = ev (dd (t + 1 - k) k f) x y * ev (dd k (t + 1 - k) g) x y := ⟨_, fun _ _ => rfl⟩
    obtain ⟨T, hT⟩ := T
    have e1 : su (t + 1) (fun k => sgn k * ch t k * (ev (dd (t - k) k (dX f)) x y * ev (dd k (t - k) (dY g)) x y)) = su (t + 1) fun k => sgn k * ch t k * T k := su_congr _ fun k hk => by
      rw [dd_dX, dd_dY, hT k (by omega), show t - k + 1 = t + 1 - k by omega]
    have e2 : su (t + 1) (fun k => sgn k * ch t k * (ev (dd (t - k) k (dY f)) x y * ev (dd k (t - k) (dX g)) x y)) = su (t + 1) fun k => sgn k * ch t k * T (k + 1) := su_congr _ fun k hk => by
      rw [dd_dX, dd_dY, hT (k + 1) (by omega), show t + 1 - (k + 1) = t - k by omega]
    have e3 : su (t + 1 + 1) (fun k => sgn k * ch (t + 1) k * (ev (dd (t + 1 - k) k f) x y * ev (dd k (t + 1 - k) g) x y)) = su (t + 1 + 1) fun k => sgn k * ch (t + 1) k * T k := su_congr _ fun k hk => by
      rw [hT k (by omega)]
    rw [e1, e2, e3, su_shift _ (t + 1)]
    have e4 : su (t + 1) (fun k => sgn (k + 1) * ch (t + 1) (k + 1) * T (k + 1)) = su (t + 1) (fun k => sgn (k + 1) * ch t (k + 1) * T (k + 1)) + su (t + 1) (fun k => -1 * (sgn k * ch t k * T (k + 1))) := by
      rw [← su_add]
      refine su_congr _ fun k hk => ?_
      show sgn (k + 1) * ((ch t k + ch t (k + 1) : Nat) : Int) * T (k + 1) = _
      rw [Int.natCast_add, sgn_succ]
      grind
    have e5 := su_shift (fun k => sgn k * ch t k * T k) (t + 1)
    have e6 : su (t + 1 + 1) (fun k => sgn k * ch t k * T k) = su (t + 1) (fun k => sgn k * ch t k * T k) + sgn (t + 1) * ch t (t + 1) * T (t + 1) := rfl
    have e7 : su (t + 1) (fun k => -1 * (sgn k * ch t k * T (k + 1))) = - su (t + 1) (fun k => sgn k * ch t k * T (k + 1)) := by
      have : ∀ n φ, su n (fun k => -1 * φ k) = - su n φ := by
        intro n φ
        induction n with
        | zero => rfl
        | succ n ih => show su n (fun k => -1 * φ k) + -1 * φ n = -(su n φ + φ n); rw [ih]; omega
      exact this _ _
    rw [e4, e7]
    rw [e6, ch_far t (t + 1) (by omega)] at e5
    rw [ch_zero] at e5 ⊢
    have z0 : sgn (t + 1) * ((0 : Nat) : Int) * T (t + 1) = 0 := by
      rw [show ((0 : Nat) : Int) = 0 from rfl, Int.mul_zero, Int.zero_mul]
    omega
end K52

set_option Elab.async false
set_option linter.all false
set_option maxRecDepth 100000
/-! layings: three forms, powers -/
namespace K52
def fact : Nat → Int
  | 0 => 1
  | n + 1 => fact n * (n + 1)
end K52

set_option Elab.async false
set_option linter.all false
set_option maxRecDepth 100000
set_option maxHeartbeats 4000000
namespace K52
open PySem PySem.Spec PyProof.Rows L2 StX RZ MyR SlX OwnR OwnF EnumT
/-- a loop over enumerate of a list -/
theorem for_enum {K : PySem.W.Frag} {a : Addr} {xs : List V} {g : TG} {tb : TS} {D : Ends} {σ : L2.St} {H : Hp} (Pv : Nat → L2.St → Hp → Prop) (h0 : Pv 0 σ H) (hq : ∀ i σ H, Pv i σ H → SqL K H a xs)
    (hs : ∀ (i : Nat) (x : V) (T : Addr) (σ : L2.St) (H : Hp), xs[i]? = some x → Pv i σ H → H T = none → g (.ref T) σ (upd H T (.tup [.int (i : Nat), x])) fun σ2 H2 => tb { D with nx := Pv (i + 1), ct := Pv (i + 1), bk := D.nx } σ2 H2) (hd : ∀ σ H, Pv xs.length σ H → D.nx σ H) :
    ∃ W : Nat → Nat → L2.St → Hp → Prop, (∃ m, W 0 m σ H) ∧ ∀ i m σ H, W i m σ H →
      ((Ite K a).stop i H ∧ D.nx σ H) ∨ ((Ite K a).go i H ∧ ∃ N : L2.St → Hp → Prop, (∀ σ' H', N σ' H' → ∃ m', m' < m ∧ W (i + 1) m' σ' H') ∧ ∀ v H', (Ite K a).yld i H v H' → g v σ H' fun σ2 H2 => tb { D with nx := N, ct := N, bk := D.nx } σ2 H2) := by
  refine ⟨fun i m σ H => m = xs.length - i ∧ i ≤ xs.length ∧ Pv i σ H, ⟨xs.length, rfl, Nat.zero_le _, h0⟩, ?_⟩
  rintro i m σ H ⟨rfl, hi, p⟩
  have qx := hq i σ H p
  by_cases hlt : i < xs.length
  · have hx : xs[i]? = some xs[i] := List.getElem?_eq_getElem hlt
    refine .inr ⟨⟨xs, _, qx, hx⟩, Pv (i + 1), fun σ' H' p' => ⟨xs.length - (i + 1), by omega, rfl, hlt, p'⟩, fun v H' y => ?_⟩
    obtain ⟨T, x', rfl, hT, rfl, f1⟩ := y
    exact hs i x' T σ H (f1 xs qx) p hT
  · have e : i = xs.length := by omega
    subst e
    exact .inl ⟨⟨xs, qx, Nat.le_refl _⟩, hd σ H p⟩
/-- a comprehension over enumerate of a list -/
theorem lc_enum {K : PySem.W.Frag} {a : Addr} {xs : List V} {g : TG} {tt : TT} {te : TE} {vs : List Nat} {σ : L2.St} {H1 : Hp} {D : Addr} {Qd : Hp → Prop} (Pv : Nat → Hp → Prop) (h0 : Pv 0 (upd H1 D (.lst []))) (hq : ∀ i H, i ≤ xs.length → Pv i H → SqL K H a xs)
    (hs : ∀ (i : Nat) (x : V) (T : Addr) (H : Hp), xs[i]? = some x → Pv i H → H T = none → g (.ref T) (wipe σ vs) (upd H T (.tup [.int (i : Nat), x])) fun σ2 H2 => wipe σ2 vs = wipe σ vs ∧ tt σ2 H2 fun b H3 =>
      if b = true then te σ2 H3 fun y H4 => ∃ acc, H4 D = some (.lst acc) ∧ acc.length < sizeLine ∧ Pv (i + 1) (upd H4 D (.lst (acc ++ [y]))) else Pv (i + 1) H3) (hd : ∀ H, Pv xs.length H → Qd H) :
    ∃ W : Nat → Nat → Hp → Prop, (∃ m, W 0 m (upd H1 D (.lst []))) ∧ ∀ i m H, W i m H →
      ((Ite K a).stop i H ∧ Qd H) ∨ ((Ite K a).go i H ∧ ∃ Nx : Hp → Prop, (∀ H', Nx H' → ∃ m', m' < m ∧ W (i + 1) m' H') ∧ ∀ x H', (Ite K a).yld i H x H' → g x (wipe σ vs) H' fun σ2 H2 => wipe σ2 vs = wipe σ vs ∧ tt σ2 H2 fun b H3 =>
        if b = true then te σ2 H3 fun y H4 => ∃ acc, H4 D = some (.lst acc) ∧ acc.length < sizeLine ∧ Nx (upd H4 D (.lst (acc ++ [y]))) else Nx H3) := by
  refine ⟨fun i m H => m = xs.length - i ∧ i ≤ xs.length ∧ Pv i H, ⟨xs.length, by simp, Nat.zero_le _, h0⟩, ?_⟩
  rintro i m H ⟨rfl, hi, p⟩
  have qx := hq i H hi p
  by_cases hlt : i < xs.length
  · have hx : xs[i]? = some xs[i] := List.getElem?_eq_getElem hlt
    refine .inr ⟨⟨xs, _, qx, hx⟩, Pv (i + 1), fun H' p' => ⟨xs.length - (i + 1), by omega, rfl, hlt, p'⟩, fun v H' y => ?_⟩
    obtain ⟨T, x', rfl, hT, rfl, f1⟩ := y
    exact hs i x' T H (f1 xs qx) p hT
  · have e : i = xs.length := by omega
    subst e
    exact .inl ⟨⟨xs, qx, Nat.le_refl _⟩, hd H p⟩
/-- a list of ints -/
abbrev lp (ns : List Int) : HO := .lst (ns.map V.int)
theorem lcut_init {l : List Int} (h : 1 ≤ l.length) : HO.lst (cutV (l.map V.int) none (some (-1))) = lp (l.take (l.length - 1)) := by
  rw [cut_init _ (by rw [List.length_map]; exact h), ← List.map_take, List.length_map]
theorem lcut_tail {l : List Int} (h : 1 ≤ l.length) : HO.lst (cutV (l.map V.int) (some 1) none) = lp (l.drop 1) := by
  rw [cut_tail _ (by rw [List.length_map]; exact h), ← List.map_drop]
theorem ch_le : ∀ n k : Nat, ch n k ≤ 2 ^ n
  | n, 0 => by rw [ch_zero]; exact Nat.one_le_two_pow
  | 0, k + 1 => Nat.zero_le _
  | n + 1, k + 1 => by
    show ch n k + ch n (k + 1) ≤ _
    have h1 := ch_le n k
    have h2 := ch_le n (k + 1)
    rw [Nat.pow_succ]
    omega
section
variable {P : Program} {w : World} {K : PySem.W.Frag} {mg : Str → Option Value} {base : Heap}
def spLots : Sp := fun vs H Q _ => ∃ n k : Nat, vs = [.int n, .int k] ∧ k ≤ n ∧ n ≤ 50 ∧ Q (.int (ch n k)) H
theorem sm_ch {n k : Nat} (h : n ≤ 50) : sm ((ch n k : Nat) : Int) := by
  show ((ch n k : Nat) : Int).natAbs < _
  rw [Int.natAbs_natCast]
  exact Nat.lt_of_le_of_lt (ch_le n k) (Nat.pow_lt_pow_right (by decide) (by omega))
theorem ok_lots_of (T : Facts K mg) : FnOk P w K mg base CX0 1 T.f_lots_of T.fd_lots_of ["many", "few"] spLots := by
  refine T.F_lots_of.ok sc_lots_of (fun vs H Q E h => ?_) (fun cdv A outer s H vs Q E hr h => ?_)
  · obtain ⟨n, k, rfl, _⟩ := h
    rfl
  · obtain ⟨n, k, rfl, hk, hn, q⟩ := h
    refine ⟨_, (PSs.nox (pss_cons (ps_set (i := 2) sc_lots_of.nd rfl (.inl rfl) pe_int)
    (pss_cons (ps_for PassesOwn.never (by rfl) (pi_range1 (by rfl) T.z_range (pa_cons (pv 1) pa_nil)) (pg_name (i := 3) sc_lots_of.nd rfl (.inl rfl))
      (pss_one (ps_set (i := 2) sc_lots_of.nd rfl (.inl rfl) (pe_op op_fdivZ (pe_op op_mulW (pv 2) (pe_op op_sub (pv 0) (pv 3))) (pe_op op_add (pv 3) pe_int)))))
    (pss_one (ps_ret (pv 2)))))), ?_⟩
    refine ⟨_, rfl, k, rfl, by omega, by omega, for_range (n := (k : Int).toNat) (fun i σ H' => ∃ y3, σ = [some (.int n), some (.int k), some (.int (ch n i)), y3] ∧ H' = H) ⟨none, by rw [ch_zero]; rfl, rfl⟩ (fun i σ H' hi hP => ?_) (fun σ H' hP => ?_)⟩
    · obtain ⟨y3, rfl, rfl⟩ := hP
      have e := ch_mul n i
      have hi1 : (0 : Int) + (i : Int) + 1 ≠ 0 := by omega
      refine ⟨_, rfl, _, rfl, _, rfl, _, _, rfl, rfl, _, _, rfl, rfl, sm_mul (sm_ch hn) (Nat.lt_of_le_of_lt (show ((n : Int) - (0 + (i : Int))).natAbs ≤ 50 by omega) (Nat.lt_of_lt_of_le (show 50 < 2 ^ 7 by decide) (Nat.pow_le_pow_right (by decide) (by decide)))), _, rfl, _, _, rfl, rfl, _, _, rfl, rfl, ⟨hi1, Nat.lt_trans (PySem.Flt.log2_lt_of (k := 10) (by decide) (by show ((0 : Int) + (i : Int) + 1).natAbs < 2 ^ 10; omega)) (by decide)⟩, some (.int (0 + (i : Int))), ?_, rfl⟩
      have e2 : (((ch n i : Nat) : Int) * ((n : Int) - (0 + (i : Int)))).fdiv (0 + (i : Int) + 1) = ((ch n (i + 1) : Nat) : Int) := by
        rw [Int.zero_add, ← e, Int.mul_fdiv_cancel _ (by omega)]
      show [some (V.int n), some (V.int k), some (V.int ((((ch n i : Nat) : Int) * ((n : Int) - (0 + (i : Int)))).fdiv (0 + (i : Int) + 1))), _] = _
      rw [e2]
    · obtain ⟨y3, rfl, rfl⟩ := hP
      rw [Int.toNat_natCast]
      exact ⟨_, rfl, q⟩
def spSlope : Sp := fun vs H Q _ => ∃ (a : Addr) (m : List Int) (b : Bool), vs = [.ref a, .bl b] ∧ H a = some (lp m) ∧ 1 ≤ m.length ∧ m.length ≤ 100 ∧ (∀ z ∈ m, sm z) ∧ ∀ p H', Same H H' → H p = none → H' p = some (lp (if b = true then dY m else dX m)) → Q (.ref p) H'
theorem ok_laying_slope (T : Facts K mg) : FnOk P w K mg base CX0 1 T.f_laying_slope T.fd_laying_slope ["entries", "by_y"] spSlope := by
  refine T.F_laying_slope.ok sc_laying_slope (fun vs H Q E h => ?_) (fun cdv A outer s H vs Q E hr h => ?_)
  · obtain ⟨a, m, b, rfl, _⟩ := h
    rfl
  · obtain ⟨a, m, b, rfl, ha, h1, h2, sm1, q⟩ := h
    refine ⟨_, (PSs.nox (pss_cons (ps_if (pt_val (pv 1))
      (pss_one (ps_ret (pe_lc (own := [("at", 2), ("entry", 3)]) (g := (gTup K 2 (gCons (gName 2) (gCons (gName 3) gNil)))) (tt := tYes) (by rfl) sc_laying_slope.nd (pi_enum (by rfl) T.z_enumerate (pa_cons (pe_slice sl_list (pv 0) (po_some pe_int) po_none) pa_nil)) (blkOk_by (N := N_laying_slope) (sc := defScope s_laying_slope) (by decide +kernel)) (fun _ _ _ _ _ => (pg_tup (by rfl) (pgs_cons (pg_name (i := 2) sc_laying_slope.nd rfl (.inl rfl)) (pgs_cons (pg_name (i := 3) sc_laying_slope.nd rfl (.inl rfl)) pgs_nil)))) (fun _ _ _ _ _ => pts_nil) (fun _ _ _ _ _ => (pe_op op_mulW (pv 3) (pe_op op_add (pv 2) pe_int))))))
      pss_nil)
    (pss_one (ps_ret (pe_lc (own := [("at", 2), ("entry", 3)]) (g := (gTup K 2 (gCons (gName 2) (gCons (gName 3) gNil)))) (tt := tYes) (by rfl) sc_laying_slope.nd (pi_enum (by rfl) T.z_enumerate (pa_cons (pe_slice sl_list (pv 0) po_none (po_some (pe_un un_neg pe_int))) pa_nil)) (blkOk_by (N := N_laying_slope) (sc := defScope s_laying_slope) (by decide +kernel)) (fun _ _ _ _ _ => (pg_tup (by rfl) (pgs_cons (pg_name (i := 2) sc_laying_slope.nd rfl (.inl rfl)) (pgs_cons (pg_name (i := 3) sc_laying_slope.nd rfl (.inl rfl)) pgs_nil)))) (fun _ _ _ _ _ => pts_nil) (fun _ _ _ _ _ => (pe_op op_mulW (pv 3) (pe_op op_sub (pe_op op_sub (pe_callB (call_len_seq : CallR _ _ (Evl.rLenS K)) (by rfl) T.z_len (by decide +kernel) (pa_cons (pv 0) pa_nil)) pe_int) (pv 2))))))))), ?_⟩
    cases b with
    | true =>
      refine ⟨_, rfl, true, rfl, iteT ⟨_, rfl, 1, rfl, a, _, rfl, SqL.of ha, fun p np => ?_⟩⟩
      rw [lcut_tail (by omega)]
      refine gen_upd H p _ np fun H2 s2 f2 => ⟨p, _, rfl, SqL.of f2, fun D hD => lc_enum (xs := (m.drop 1).map V.int) (fun k H' => Same H2 H' ∧ H' D = some (.lst (tab k fun k => co m (k + 1) * ((k : Int) + 1)))) ⟨same_upd0 hD, upd_same⟩ (fun k H' _ hP => SqL.of (hP.1 _ _ f2)) (fun k x B H' hx hP hB => ?_) (fun H3 hP => ?_)⟩
      · obtain ⟨sH, hL⟩ := hP
        obtain ⟨hk, rfl⟩ := int_get hx
        rw [List.length_drop] at hk
        rw [co_drop1]
        refine gen_upd H' B _ hB fun H4 s4 f4 => ⟨B, _, rfl, SqT.of f4, rfl, _, _, rfl, _, _, rfl, rfl, rfl, ?_⟩
        refine ⟨_, rfl, _, rfl, _, _, rfl, rfl, _, _, rfl, rfl, sm_mul (sm_co sm1 (by omega)) (Nat.lt_of_le_of_lt (show ((k : Int) + 1).natAbs ≤ 100 by omega) (Nat.lt_of_lt_of_le (show 100 < 2 ^ 7 by decide) (Nat.pow_le_pow_right (by decide) (by decide)))), _, s4 _ _ hL, ?_, fun b o e => ?_, ?_⟩
        · rw [tab_len]
          exact small1000 (by omega)
        · rw [upd_ne (ne_of_none e hD)]
          exact s4 _ _ (sH _ _ e)
        · rw [upd_same, ← tab_snoc]
      · obtain ⟨sH, hL⟩ := hP
        rw [List.length_map, List.length_drop, tab_tb] at hL
        exact q D H3 (s2.trans sH) (Same.free s2 hD) hL
    | false =>
      refine ⟨_, rfl, false, rfl, iteF ⟨_, rfl, _, rfl, _, rfl, a, _, rfl, SqL.of ha, fun p np => ?_⟩⟩
      rw [lcut_init (by omega)]
      refine gen_upd H p _ np fun H2 s2 f2 => ⟨p, _, rfl, SqL.of f2, fun D hD => lc_enum (xs := (m.take (m.length - 1)).map V.int) (fun k H' => Same H2 H' ∧ H' D = some (.lst (tab k fun k => co m k * ((m.length : Int) - 1 - k)))) ⟨same_upd0 hD, upd_same⟩ (fun k H' _ hP => SqL.of (hP.1 _ _ f2)) (fun k x B H' hx hP hB => ?_) (fun H3 hP => ?_)⟩
      · obtain ⟨sH, hL⟩ := hP
        obtain ⟨hk, rfl⟩ := int_get hx
        rw [List.length_take] at hk
        rw [co_take (by omega)]
        refine gen_upd H' B _ hB fun H4 s4 f4 => ⟨B, _, rfl, SqT.of f4, rfl, _, _, rfl, _, _, rfl, rfl, rfl, ?_⟩
        have hfB := (s2.trans (sH.trans s4)) _ _ ha
        refine ⟨_, rfl, _, rfl, a, _, rfl, .inl (SqL.of hfB), ?_⟩
        rw [List.length_map]
        refine ⟨_, _, rfl, rfl, _, rfl, _, _, rfl, rfl, _, _, rfl, rfl, sm_mul (sm_co sm1 (by omega)) (Nat.lt_of_le_of_lt (show ((m.length : Int) - 1 - (k : Int)).natAbs ≤ 100 by omega) (Nat.lt_of_lt_of_le (show 100 < 2 ^ 7 by decide) (Nat.pow_le_pow_right (by decide) (by decide)))), _, s4 _ _ hL, ?_, fun b o e => ?_, ?_⟩
        · rw [tab_len]
          exact small1000 (by omega)
        · rw [upd_ne (ne_of_none e hD)]
          exact s4 _ _ (sH _ _ e)
        · rw [upd_same, ← tab_snoc]
      · obtain ⟨sH, hL⟩ := hP
        rw [List.length_map, List.length_take, Nat.min_eq_left (by omega), tab_tb] at hL
        exact q D H3 (s2.trans sH) (Same.free s2 hD) hL
end
end K52

set_option Elab.async false
set_option linter.all false
set_option maxRecDepth 100000
set_option maxHeartbeats 4000000
namespace K52
open PySem PySem.Spec PyProof.Rows L2 StX RZ MyR SlX OwnR OwnF EnumT
theorem dX_itY (l : List Int) : ∀ j, dX (it dY j l) = it dY j (dX l)
  | 0 => rfl
  | j + 1 => by
    show dX (dY (it dY j l)) = dY (it dY j (dX l))
    rw [dXY, dX_itY l j]
theorem dX_dd (i j : Nat) (l : List Int) : dX (dd i j l) = dd (i + 1) j l := by
  unfold dd
  rw [dX_itY]
  rfl
theorem dY_dd (i j : Nat) (l : List Int) : dY (dd i j l) = dd i (j + 1) l := rfl
/-- lists of ints: where they stand, what they hold -/
structure Ll (H : Hp) (rs : List Addr) (n : Nat) (φ : Nat → List Int) : Prop where
  len : rs.length = n
  row : ∀ k (h : k < rs.length), H rs[k] = some (lp (φ k))
theorem Ll.same {H H' : Hp} {rs : List Addr} {n : Nat} {φ : Nat → List Int} (h : Ll H rs n φ) (s : Same H H') : Ll H' rs n φ := ⟨h.len, fun k hk => s _ _ (h.row k hk)⟩
theorem Ll.snoc {H H' : Hp} {rs : List Addr} {n : Nat} {φ : Nat → List Int} {p : Addr} {l : List Int} (h : Ll H rs n φ) (s : ∀ k (hk : k < rs.length), H' rs[k] = H rs[k]) (hp : H' p = some (lp l)) (e : l = φ n) : Ll H' (rs ++ [p]) (n + 1) φ := by
  refine ⟨by rw [List.length_append, h.len]; rfl, fun k hk => ?_⟩
  by_cases c : k < rs.length
  · rw [show (rs ++ [p])[k] = rs[k] from List.getElem_append_left _, s k c]
    exact h.row k c
  · have ek : k = rs.length := by rw [List.length_append] at hk; simp at hk; omega
    subst ek
    rw [show (rs ++ [p])[rs.length] = p by rw [List.getElem_append_right (Nat.le_refl _)]; simp, hp, e, h.len]
/-- all these addresses are free -/
def Fr (H : Hp) (rs : List Addr) : Prop := ∀ r ∈ rs, H r = none
theorem Fr.snoc {H : Hp} {rs : List Addr} {p : Addr} (h : Fr H rs) (hp : H p = none) : Fr H (rs ++ [p]) := fun r hr => by
  rcases List.mem_append.mp hr with e | e
  · exact h r e
  · rw [List.mem_singleton.mp e]
    exact hp
theorem get_ref {rs : List Addr} {i : Nat} {x : V} (h : (rs.map V.ref)[i]? = some x) : ∃ hi : i < rs.length, x = .ref rs[i] := by
  rw [List.getElem?_map] at h
  obtain ⟨b, hb, rfl⟩ := Option.map_eq_some_iff.mp h
  obtain ⟨h1, e1⟩ := List.getElem?_eq_some_iff.mp hb
  exact ⟨h1, by rw [e1]⟩
section
variable {P : Program} {w : World} {K : PySem.W.Frag} {mg : Str → Option Value} {base : Heap}
def spSlopes : Sp := fun vs H Q _ => ∃ (a : Addr) (l : List Int) (t : Nat), vs = [.ref a, .int t] ∧ H a = some (tp l) ∧ t + 1 ≤ l.length ∧ l.length ≤ 100 ∧ (∀ i j, i + j ≤ t → ∀ z ∈ dd i j l, sm z) ∧
  ∀ p rs H', Same H H' → H p = none → Fr H rs → H' p = some (.lst (rs.map V.ref)) → Ll H' rs (t + 1) (fun k => dd (t - k) k l) → Q (.ref p) H'
theorem ok_laying_slopes (T : Facts K mg) : FnOk P w K mg base CX0 2 T.f_laying_slopes T.fd_laying_slopes ["entries", "times"] spSlopes := by
  have G_laying_slope := ok_laying_slope (P := P) (w := w) (base := base) T
  refine T.F_laying_slopes.ok sc_laying_slopes (fun vs H Q E h => ?_) (fun cdv A outer s H vs Q E hr h => ?_)
  · obtain ⟨a, l, t, rfl, _⟩ := h
    rfl
  · obtain ⟨a, l, t, rfl, ha, h1, h2, hs, q⟩ := h
    refine ⟨_, (PSs.nox (pss_cons (ps_set (i := 2) sc_laying_slopes.nd rfl (.inl rfl) (pe_lst (pa_cons (pe_callTy call_list_of (by rfl) T.z_list (by decide +kernel) (pa_cons (pv 0) pa_nil)) pa_nil)))
    (pss_cons (ps_for PassesOwn.never (by rfl) (pi_range1 (by rfl) T.z_range (pa_cons (pv 1) pa_nil)) (pg_name (i := 3) sc_laying_slopes.nd rfl (.inl rfl))
      (pss_one (ps_set (i := 2) sc_laying_slopes.nd rfl (.inl rfl) (pe_lst (pa_star (pe_lc (own := [("one", 4)]) (g := (gName 4)) (tt := tYes) (by rfl) sc_laying_slopes.nd (pi_list (pv 2)) (blkOk_by (N := N_laying_slopes) (sc := defScope s_laying_slopes) (by decide +kernel)) (fun _ _ _ _ _ => (pg_name (i := 4) sc_laying_slopes.nd rfl (.inl rfl))) (fun _ _ _ _ _ => pts_nil) (fun _ _ _ _ _ => (pe_call G_laying_slope hr (by rfl) T.g_laying_slope T.F_laying_slope.kp T.b_laying_slope .nil pass0 (pa_cons (pv 4) (pa_cons pe_bl pa_nil))))) (pa_cons (pe_call G_laying_slope hr (by rfl) T.g_laying_slope T.F_laying_slope.kp T.b_laying_slope .nil pass0 (pa_cons (pe_ix ix_list (pv 2) (pe_un un_neg pe_int) (fun _ _ => rfl)) (pa_cons pe_bl pa_nil))) pa_nil))))))
    (pss_one (ps_ret (pv 2)))))), ?_⟩
    refine ⟨_, rfl, a, _, rfl, .inr (SqT.of ha), fun p0 n0 => gen_upd H p0 (lp l) n0 fun H1 s1 f1 => ⟨by show 1 ≤ sizeLine; decide, fun p1 n1 => gen_upd H1 p1 (.lst [.ref p0]) n1 fun H2 s2 f2 => ?_⟩⟩
    refine ⟨_, rfl, t, rfl, by omega, by omega, for_range (n := (t : Int).toNat) (fun u σ H' => ∃ fa rs y3, σ = [some (.ref a), some (.int t), some (.ref fa), y3, none] ∧ Same H H' ∧ H fa = none ∧ Fr H rs ∧ H' fa = some (.lst (rs.map V.ref)) ∧ Ll H' rs (u + 1) (fun k => dd (u - k) k l)) ⟨p1, [p0], none, rfl, s1.trans s2, Same.free s1 n1, fun r hr => by rw [List.mem_singleton.mp hr]; exact n0, f2, ⟨rfl, fun k hk => ?_⟩⟩ (fun u σ H' hu hP => ?_) (fun σ H' hP => ?_)⟩
    · have k0 : k = 0 := by have : k < 1 := hk; omega
      subst k0
      exact s2 _ _ f1
    · obtain ⟨fa, rs, y3, rfl, sH, nfa, fr, hfa, ll⟩ := hP
      have hu2 : u < t := by omega
      refine ⟨_, rfl, fa, rfl, ⟨_, SqL.of hfa⟩, fun D hD => lc_list (xs := rs.map V.ref) (fun j H3 => Same H' H3 ∧ ∃ ss, H3 D = some (.lst (ss.map V.ref)) ∧ Fr H ss ∧ Ll H3 ss j (fun k => dd (u + 1 - k) k l)) ⟨same_upd0 hD, [], upd_same, fun r hr => (nomatch hr), rfl, fun k hk => absurd hk (Nat.not_lt_zero k)⟩ (fun j H3 _ hP3 => SqL.of (hP3.1 _ _ hfa)) (fun j x H3 hx hP3 => ?_) (fun H3 hP3 => ?_)⟩
      · obtain ⟨s3, ss, hL, fs, l3⟩ := hP3
        obtain ⟨hj, rfl⟩ := get_ref hx
        have hj2 : j < u + 1 := by rw [← ll.len]; exact hj
        have hrow := s3 _ _ (ll.row j hj)
        have dl := dd_len (u - j) j l
        refine ⟨rfl, _, rfl, rs[j], _, false, rfl, hrow, by omega, by omega, hs (u - j) j (by omega), fun p4 H4 s4 n4 f4 => ?_⟩
        have hL4 := s4 _ _ hL
        have nD4 : ∀ q ls, H4 q = some (lp ls) → H3 q = none ∨ True → q ≠ D ∨ True := fun _ _ _ _ => .inr True.intro
        have p4D : p4 ≠ D := fun z => by rw [z, hL] at n4; cases n4
        have dH : ∀ b o, H' b = some o → b ≠ D := fun b o e => ne_of_none e hD
        refine ⟨_, hL4, by rw [List.length_map, l3.len]; exact small1000 (by omega), fun b o e => ?_, ss ++ [p4], by rw [upd_same, List.map_append]; rfl, fs.snoc (Same.free sH (Same.free s3 n4)), l3.snoc (fun k hk => ?_) (by rw [upd_ne p4D]; exact f4) ?_⟩
        · rw [upd_ne (dH b o e)]
          exact s4 _ _ (s3 _ _ e)
        · have e3 := l3.row k hk
          have nk : ss[k] ≠ D := fun z => by
            have e4 := e3
            rw [z, hL] at e4
            have hh := HO.lst.inj (Option.some.inj e4)
            have dl2 := dd_len (u + 1 - k) k l
            have hk2 : k < j := by rw [← l3.len]; exact hk
            have c0 := congrArg (fun zs => zs[0]?) hh
            have : 0 < (dd (u + 1 - k) k l).length := by omega
            have : 0 < ss.length := by omega
            simp only [List.getElem?_map] at c0
            rw [List.getElem?_eq_getElem (by omega), List.getElem?_eq_getElem (by omega)] at c0
            cases c0
          rw [upd_ne nk, s4 _ _ e3, e3]
        · rw [if_neg (by decide), dX_dd]
          rw [show u - j + 1 = u + 1 - j by omega]
      · obtain ⟨s3, ss, hL, fs, l3⟩ := hP3
        rw [List.length_map, ll.len] at l3
        refine ⟨D, _, rfl, .inr (SqL.of hL), ?_⟩
        obtain ⟨rs0, rl, ers⟩ : ∃ rs0 rl, rs = rs0 ++ [rl] := ⟨rs.dropLast, rs.getLast (fun z => by have := ll.len; rw [z] at this; cases this), (List.dropLast_concat_getLast _).symm⟩
        have lr0 : rs0.length = u := by have := ll.len; rw [ers, List.length_append] at this; simp at this; exact this
        have hrl : H' rl = some (lp (dd 0 u l)) := by
          have := ll.row u (by rw [ll.len]; omega)
          rw [Nat.sub_self] at this
          rw [← this]
          congr 1
          simp only [ers]
          rw [List.getElem_append_right (by omega)]
          simp [lr0]
        have hfa' : H' fa = some (.lst (rs0.map V.ref ++ [.ref rl])) := by rw [hfa, ers, List.map_append]; rfl
        have dl := dd_len 0 u l
        refine ⟨_, rfl, _, rfl, fa, _, _, _, rfl, rfl, SqL.of (s3 _ _ hfa'), atI_last _ _, rl, _, true, rfl, s3 _ _ hrl, by omega, by omega, hs 0 u (by omega), fun p5 H5 s5 n5 f5 => ?_⟩
        refine ⟨by rw [List.length_append, List.length_map, l3.len]; exact Nat.le_of_lt (small1000 (by show u + 1 + 1 ≤ 1000; omega)), fun p6 n6 => gen_upd H5 p6 _ n6 fun H6 s6 f6 => ?_⟩
        refine ⟨p6, ss ++ [p5], _, rfl, ((sH.trans s3).trans s5).trans s6, Same.free sH (Same.free s3 (Same.free s5 n6)), fs.snoc (Same.free sH (Same.free s3 n5)), by rw [f6, List.map_append]; rfl, l3.snoc (fun k hk => ?_) (s6 _ _ f5) ?_⟩
        · have e3 := l3.row k hk
          rw [(s5.trans s6) _ _ e3, e3]
        · rw [if_pos rfl, dY_dd, Nat.sub_self]
    · obtain ⟨fa, rs, y3, rfl, sH, nfa, fr, hfa, ll⟩ := hP
      rw [Int.toNat_natCast] at ll
      exact ⟨_, rfl, q fa rs H' sH nfa fr hfa ll⟩
end
end K52

set_option Elab.async false
set_option linter.all false
set_option maxRecDepth 100000
set_option maxHeartbeats 4000000
namespace K52
open PySem PySem.Spec PyProof.Rows L2 StX RZ MyR SlX OwnR OwnF EnumT
theorem tab_inj {n : Nat} {f g : Nat → Int} (h : f = g) : tab n f = tab n g := by rw [h]
/-- the entries so far of a laying -/
def Lc (t : Nat) (f g : List Int) (i k : Nat) : Int := su i fun j => sgn j * ch t j * cv (dd (t - j) j f) (co (dd j (t - j) g)) k
theorem evF_su (N : Nat) (φ : Nat → Nat → Int) (x y : Int) : ∀ n, evF N (fun k => su n fun j => φ j k) x y = su n fun j => evF N (φ j) x y
  | 0 => evF_zero x y N
  | n + 1 => by
    show evF N (fun k => su n (fun j => φ j k) + φ n k) x y = su n (fun j => evF N (φ j) x y) + evF N (φ n) x y
    rw [evF_add, evF_su N φ x y n]
theorem L_tab {t : Nat} {f g : List Int} (hf : t + 1 ≤ f.length) (hg : t + 1 ≤ g.length) : tb (f.length + g.length - 1 - 2 * t) (Lc t f g (t + 1)) = L t f g := by
  refine ev_inj (by rw [tb_len, L_len t f g hf hg]) fun x y => ?_
  rw [ev_tb, L_sum x y t f g hf hg]
  unfold Lc
  rw [evF_su]
  refine su_congr _ fun j hj => ?_
  have l1 := dd_len (t - j) j f
  have l2 := dd_len j (t - j) g
  have n1 : dd (t - j) j f ≠ [] := ne_of2 (by omega)
  have n2 : dd j (t - j) g ≠ [] := ne_of2 (by omega)
  rw [evF_mul]
  congr 1
  rw [← ev_ml n1 n2]
  unfold ev
  rw [ml_len, show (dd (t - j) j f).length + (dd j (t - j) g).length - 1 = f.length + g.length - 1 - 2 * t by omega]
  exact evF_congr _ fun k _ => (co_ml n2 k).symm
/-- what is asked of what is laid -/
structure LdOk (t : Nat) (f g : List Int) : Prop where
  lf : t + 1 ≤ f.length
  lg : t + 1 ≤ g.length
  mf : f.length ≤ 42
  mg : g.length ≤ 42
  sf : ∀ i j, i + j ≤ t → nm (dd i j f) ≤ 2 ^ 150
  sg : ∀ i j, i + j ≤ t → nm (dd i j g) ≤ 2 ^ 150
theorem lt400 {x i : Nat} (h : x ≤ 2 ^ i) (hi : i < 400) : x < 2 ^ 400 := Nat.lt_of_le_of_lt h (Nat.pow_lt_pow_right (by decide) hi)
theorem LdOk.smf {t : Nat} {f g : List Int} (h : LdOk t f g) (i j : Nat) (hij : i + j ≤ t) : ∀ z ∈ dd i j f, sm z := fun z hz => lt400 (Nat.le_trans (nm_mem hz) (h.sf i j hij)) (by decide)
theorem LdOk.smg {t : Nat} {f g : List Int} (h : LdOk t f g) (i j : Nat) (hij : i + j ≤ t) : ∀ z ∈ dd i j g, sm z := fun z hz => lt400 (Nat.le_trans (nm_mem hz) (h.sg i j hij)) (by decide)
section
variable {P : Program} {w : World} {K : PySem.W.Frag} {mg : Str → Option Value} {base : Heap}
def spAddP : Sp := fun vs H Q _ => ∃ (R a b : Addr) (N : Nat) (g : Nat → Int) (xs ys : List Int) (c : Int), vs = [.ref R, .ref a, .ref b, .int c] ∧ H R = some (.lst (tab N g)) ∧ H a = some (lp xs) ∧ H b = some (lp ys) ∧ a ≠ R ∧ b ≠ R ∧ xs.length + ys.length ≤ N + 1 ∧ N ≤ 900 ∧
  (∀ x ∈ xs, sm x ∧ sm (c * x)) ∧ (∀ y ∈ ys, sm y) ∧ sm c ∧ ∀ H', Sx R H H' → H' R = some (.lst (tab N fun k => g k + c * cv xs (co ys) k)) → Q .non H'
theorem ok_add_product (T : Facts K mg) : FnOk P w K mg base CX0 1 T.f_add_product T.fd_add_product ["found", "one", "other", "factor"] spAddP := by
  refine T.F_add_product.ok sc_add_product (fun vs H Q E h => ?_) (fun cdv A outer s H vs Q E hr h => ?_)
  · obtain ⟨R, a, b, N, g, xs, ys, c, rfl, _⟩ := h
    rfl
  · obtain ⟨R, a, b, N, g, xs, ys, c, rfl, hR, ha, hb, naR, nbR, hN, hN9, hx, hy, hc, q⟩ := h
    refine ⟨_, (PSs.nox (pss_one (ps_for PassesOwn.never (by rfl) (pi_enum (by rfl) T.z_enumerate (pa_cons (pv 1) pa_nil)) (pg_tup (by rfl) (pgs_cons (pg_name (i := 4) sc_add_product.nd rfl (.inl rfl)) (pgs_cons (pg_name (i := 5) sc_add_product.nd rfl (.inl rfl)) pgs_nil)))
      (pss_one (ps_for PassesOwn.never (by rfl) (pi_enum (by rfl) T.z_enumerate (pa_cons (pv 2) pa_nil)) (pg_tup (by rfl) (pgs_cons (pg_name (i := 6) sc_add_product.nd rfl (.inl rfl)) (pgs_cons (pg_name (i := 7) sc_add_product.nd rfl (.inl rfl)) pgs_nil)))
        (pss_one (ps_augS (pv 0) (pe_op op_add (pv 4) (pv 6)) OwnC.get_list (pe_op op_mulW (pe_op op_mulW (pv 3) (pv 5)) (pv 7)) ip_add set_list))))))), ?_⟩
    refine ⟨_, rfl, a, _, rfl, SqL.of ha, for_enum (xs := xs.map V.int) (fun i σ H' => ∃ y4 y5 y6 y7, σ = [some (.ref R), some (.ref a), some (.ref b), some (.int c), y4, y5, y6, y7] ∧ Sx R H H' ∧ H' R = some (.lst (tab N fun k => g k + c * cv (xs.take i) (co ys) k))) ⟨none, none, none, none, rfl, Sx.refl R H, ?_⟩ (fun i σ H' hP => ?_) (fun i x B σ H' hxi hP hB => ?_) (fun σ H' hP => ?_)⟩
    · rw [hR]
      congr 2
      refine tab_inj (funext fun k => ?_)
      show g k = g k + c * 0
      omega
    · obtain ⟨y4, y5, y6, y7, _, sH, _⟩ := hP
      exact SqL.of (sH _ _ naR ha)
    · obtain ⟨y4, y5, y6, y7, rfl, sH, hL⟩ := hP
      obtain ⟨hi2, rfl⟩ := int_get hxi
      refine ⟨B, _, rfl, SqT.of upd_same, rfl, _, _, rfl, _, _, rfl, rfl, ?_⟩
      refine gen_upd H' B _ hB (fun H2 s2 _ => ?_)
      have sH2 : Sx R H H2 := sH.trans (Sx.of s2)
      have hL2 := s2 _ _ hL
      rw [tab_ext (g := fun k => g k + c * J xs (co ys) i 0 k) fun k hk => by rw [J_0]] at hL2
      refine ⟨_, rfl, b, _, rfl, SqL.of (sH2 _ _ nbR hb), for_enum (xs := ys.map V.int) (fun j σ H3 => ∃ y6 y7, σ = [some (.ref R), some (.ref a), some (.ref b), some (.int c), some (.int ((i : Nat) : Int)), some (.int (co xs i)), y6, y7] ∧ Sx R H H3 ∧ H3 R = some (.lst (tab N fun k => g k + c * J xs (co ys) i j k))) ⟨y6, y7, rfl, sH2, hL2⟩ (fun j σ H3 hP => ?_) (fun j y B2 σ H3 hyj hP hB2 => ?_) (fun σ H3 hP => ?_)⟩
      · obtain ⟨y6, y7, _, sH3, _⟩ := hP
        exact SqL.of (sH3 _ _ nbR hb)
      · obtain ⟨y6, y7, rfl, sH3, hL3⟩ := hP
        obtain ⟨hj2, rfl⟩ := int_get hyj
        refine ⟨B2, _, rfl, SqT.of upd_same, rfl, _, _, rfl, _, _, rfl, rfl, ?_⟩
        refine gen_upd H3 B2 _ hB2 (fun H4 s4 _ => ?_)
        have sH4 : Sx R H H4 := sH3.trans (Sx.of s4)
        have hL4 := s4 _ _ hL3
        have e1 : ((i : Nat) : Int) + ((j : Nat) : Int) = ((i + j : Nat) : Int) := by omega
        obtain ⟨sx, scx⟩ := hx (co xs i) (by rw [co_get hi2]; exact List.getElem_mem hi2)
        refine ⟨_, rfl, _, rfl, _, rfl, _, _, rfl, rfl, R, _, i + j, _, rfl, by rw [← e1], SqL.of hL4, tab_get (by omega), ?_⟩
        refine ⟨_, rfl, _, rfl, _, _, rfl, rfl, sm_mul hc sx, _, rfl, _, _, rfl, rfl, sm_mul scx (sm_co hy hj2), _, _, rfl, rfl, R, _, _, (i + j), rfl, rfl, hL4, ?_, ?_⟩
        · rw [tab_len]
          exact ix_at e1 (by omega)
        · refine ⟨_, _, rfl, fun d o n e => ?_, ?_⟩
          · rw [upd_ne n]
            exact sH4 _ _ n e
          · rw [upd_same]
            show some (HO.lst ((tab N fun k => g k + c * J xs (co ys) i j k).set (i + j) (.int (g (i + j) + c * J xs (co ys) i j (i + j) + c * co xs i * co ys j)))) = _
            rw [tab_set]
            congr 2
            refine tab_ext fun k hk => ?_
            rw [← J_step]
            by_cases z : k = i + j
            · subst z
              rw [if_pos rfl, if_pos rfl]
              grind
            · rw [if_neg z, if_neg z]
      · obtain ⟨y6, y7, rfl, sH3, hL3⟩ := hP
        rw [List.length_map, tab_ext (g := fun k => g k + c * cv (xs.take (i + 1)) (co ys) k) fun k hk => by rw [J_end hi2]] at hL3
        exact ⟨_, _, _, _, rfl, sH3, hL3⟩
    · obtain ⟨y4, y5, y6, y7, rfl, sH, hL⟩ := hP
      rw [List.length_map, List.take_length] at hL
      exact q H' sH hL
end
end K52

set_option Elab.async false
set_option linter.all false
set_option maxRecDepth 100000
set_option maxHeartbeats 4000000
namespace K52
open PySem PySem.Spec PyProof.Rows L2 StX RZ MyR SlX OwnR OwnF EnumT
section
variable {P : Program} {w : World} {K : PySem.W.Frag} {mg : Str → Option Value} {base : Heap}
theorem sgn_abs (k : Nat) : (sgn k).natAbs = 1 := by
  unfold sgn
  split <;> rfl
theorem tab_rep0 (n : Nat) : (List.replicate n [V.int 0]).flatten = tab n fun _ => 0 := by
  rw [← tab_rep]
  induction n with
  | zero => rfl
  | succ n ih => rw [List.replicate_succ, List.flatten_cons, ih, List.replicate_succ]; rfl
def spLaidIn : Sp := fun vs H Q _ => ∃ (a b : Addr) (f g : List Int) (t : Nat), vs = [.ref a, .ref b, .int t] ∧ H a = some (tp f) ∧ H b = some (tp g) ∧ LdOk t f g ∧ ∀ p H', Same H H' → H' p = some (tp (L t f g)) → Q (.ref p) H'
theorem ok_laid_in (T : Facts K mg) : FnOk P w K mg base CX0 3 T.f_laid_in T.fd_laid_in ["one", "other", "times"] spLaidIn := by
  have G_laying_slopes := ok_laying_slopes (P := P) (w := w) (base := base) T
  have G_add_product := ok_add_product (P := P) (w := w) (base := base) T
  have G_lots_of := ok_lots_of (P := P) (w := w) (base := base) T
  refine T.F_laid_in.ok sc_laid_in (fun vs H Q E h => ?_) (fun cdv A outer s H vs Q E hr h => ?_)
  · obtain ⟨a, b, f, g, t, rfl, _⟩ := h
    rfl
  · obtain ⟨a, b, f, g, t, rfl, ha, hb, ok, q⟩ := h
    have lf := ok.lf
    have lg := ok.lg
    have mf := ok.mf
    have mg' := ok.mg
    refine ⟨_, (PSs.nox (pss_cons (ps_set (i := 3) sc_laid_in.nd rfl (.inl rfl) (pe_op op_rep (pe_lst (pa_cons pe_int pa_nil)) (pe_op op_sub (pe_op op_sub (pe_op op_add (pe_callB call_len_seq (by rfl) T.z_len (by decide +kernel) (pa_cons (pv 0) pa_nil)) (pe_callB call_len_seq (by rfl) T.z_len (by decide +kernel) (pa_cons (pv 1) pa_nil))) pe_int) (pe_op op_mulW pe_int (pv 2)))))
    (pss_cons (ps_par (i := 4) (j := 5) (by rfl) sc_laid_in.nd rfl rfl (by decide) rfl rfl (pa_cons (pe_call G_laying_slopes hr (by rfl) T.g_laying_slopes T.F_laying_slopes.kp T.b_laying_slopes .nil pass0 (pa_cons (pv 0) (pa_cons (pv 2) pa_nil))) (pa_cons (pe_call G_laying_slopes hr (by rfl) T.g_laying_slopes T.F_laying_slopes.kp T.b_laying_slopes .nil pass0 (pa_cons (pv 1) (pa_cons (pv 2) pa_nil))) pa_nil)) (by rfl))
    (pss_cons (ps_for PassesOwn.never (by rfl) (pi_range1 (by rfl) T.z_range (pa_cons (pe_op op_add (pv 2) pe_int) pa_nil)) (pg_name (i := 6) sc_laid_in.nd rfl (.inl rfl))
      (pss_one (ps_expr (pe_call G_add_product (hr.mono (by decide)) (by rfl) T.g_add_product T.F_add_product.kp T.b_add_product .nil pass0 (pa_cons (pv 3) (pa_cons (pe_ix ix_list (pv 4) (pv 6) (fun _ _ => rfl)) (pa_cons (pe_ix ix_list (pv 5) (pe_op op_sub (pv 2) (pv 6)) (fun _ _ => rfl)) (pa_cons (pe_op op_mulW (pe_call G_lots_of (hr.mono (by decide)) (by rfl) T.g_lots_of T.F_lots_of.kp T.b_lots_of .nil pass0 (pa_cons (pv 2) (pa_cons (pv 6) pa_nil))) (pe_ifExp (pt_cmpR op_eq (pe_op op_mod (pv 6) pe_int) pe_int (nomark _)) pe_int (pe_un un_neg pe_int))) pa_nil))))))))
    (pss_one (ps_ret (pe_tupleOf (by rfl) T.z_tuple (pv 3)))))))), ?_⟩
    refine ⟨by show 1 ≤ sizeLine; decide, fun p0 n0 => gen_upd H p0 (.lst [.int 0]) n0 fun H0 s0 f0 => ⟨_, rfl, a, _, rfl, .inr (SqT.of (s0 _ _ ha)), _, rfl, b, _, rfl, .inr (SqT.of (s0 _ _ hb)), ?_⟩⟩
    rw [List.length_map, List.length_map]
    refine ⟨_, _, rfl, rfl, _, _, rfl, rfl, _, rfl, _, _, rfl, rfl, sm_mul (show sm 2 by show (2 : Nat) < 2 ^ 400; exact lt400 (i := 1) (by decide) (by decide)) (sm_le (n := 100) (show ((t : Nat) : Int).natAbs ≤ 100 by omega) (by decide)), _, _, rfl, rfl, ?_⟩
    obtain ⟨N, hN⟩ : ∃ N, N = f.length + g.length - 1 - 2 * t := ⟨_, rfl⟩
    have eN : ((f.length : Int) + (g.length : Int) - 1 - 2 * (t : Int)) = (N : Int) := by omega
    dsimp only []
    rw [eN]
    have hz1 : [V.int 0].length * (N : Int).toNat ≤ sizeLine := by
      have hz : (1000 : Nat) ≤ sizeLine := by decide
      show 1 * (N : Int).toNat ≤ sizeLine
      omega
    refine ⟨p0, N, _, rfl, rfl, f0, by omega, by omega, hz1, fun R nR => ?_⟩
    rw [Int.toNat_natCast, tab_rep0]
    refine gen_upd H0 R _ nR fun H1 s1 f1 => ?_
    have s01 := s0.trans s1
    refine ⟨_, rfl, _, rfl, a, f, t, rfl, s01 _ _ ha, by omega, by omega, ok.smf, fun p2 rs H2 s2 n2 fr2 h2 l2 => ?_⟩
    refine ⟨_, rfl, _, rfl, b, g, t, rfl, (s01.trans s2) _ _ hb, by omega, by omega, ok.smg, fun p3 rs' H3 s3 n3 fr3 h3 l3 => ⟨_, _, rfl, ?_⟩⟩
    have f3 := (s2.trans s3) _ _ f1
    have h2' := s3 _ _ h2
    have l2' := l2.same s3
    have ne2 : ∀ r ∈ rs, r ≠ R := fun r hr z => by have := fr2 r hr; rw [z, f1] at this; cases this
    have ne3 : ∀ r ∈ rs', r ≠ R := fun r hr z => by have := fr3 r hr; rw [z, s2 _ _ f1] at this; cases this
    have nR2 : p2 ≠ R := fun z => by rw [z, f1] at n2; cases n2
    have nR3 : p3 ≠ R := fun z => by rw [z, s2 _ _ f1] at n3; cases n3
    have nHR : ∀ d o, H d = some o → d ≠ R := fun d o e => ne_of_none (s0 _ _ e) nR
    refine ⟨_, rfl, _, _, rfl, rfl, _, rfl, by omega, by omega, for_range (n := ((t : Int) + 1).toNat) (fun i σ H' => ∃ y6, σ = [some (.ref a), some (.ref b), some (.int t), some (.ref R), some (.ref p2), some (.ref p3), y6] ∧ Sx R H3 H' ∧ H' R = some (.lst (tab N (Lc t f g i)))) ⟨none, rfl, Sx.refl R H3, f3⟩ (fun i σ H' hi hP => ?_) (fun σ H' hP => ?_)⟩
    · obtain ⟨y6, rfl, sH, hL⟩ := hP
      have hi2 : i ≤ t := by omega
      have ei : (0 : Int) + (i : Int) = ((i : Nat) : Int) := by omega
      have et : (t : Int) - (0 + (i : Int)) = ((t - i : Nat) : Int) := by omega
      have hr1 : i < rs.length := by rw [l2'.len]; omega
      have hr2 : t - i < rs'.length := by rw [l3.len]; omega
      have q1 := sH _ _ (ne2 _ (List.getElem_mem hr1)) (l2'.row i hr1)
      have q2 := sH _ _ (ne3 _ (List.getElem_mem hr2)) (l3.row (t - i) hr2)
      rw [show t - (t - i) = i by omega] at q2
      refine ⟨_, rfl, _, rfl, _, rfl, p2, _, _, _, rfl, rfl, SqL.of (sH _ _ nR2 h2'), at_of ei (by rw [List.getElem?_map, List.getElem?_eq_getElem hr1]; rfl), ?_⟩
      refine ⟨_, rfl, _, rfl, _, rfl, _, _, rfl, rfl, p3, _, _, _, rfl, rfl, SqL.of (sH _ _ nR3 h3), at_of et (by rw [List.getElem?_map, List.getElem?_eq_getElem hr2]; rfl), ?_⟩
      have lotE : [V.int (t : Int), V.int (0 + (i : Int))] = [V.int (t : Int), V.int (i : Int)] := by rw [ei]
      have l1 := dd_len (t - i) i f
      have l2 := dd_len i (t - i) g
      refine ⟨_, rfl, _, rfl, t, i, lotE, hi2, by omega, ?_⟩
      refine ⟨_, rfl, _, _, rfl, rfl, (by show (0 : Int) < 2; decide), rfl, _, rfl, iteI (fun e => ?_) (fun e => ⟨_, rfl, ?_⟩)⟩
      · have es : sgn i = 1 := by
          unfold sgn
          rw [if_pos (by have : ((0 : Int) + (i : Int)) % 2 = 0 := e; omega)]
        have hc : ((ch t i : Nat) : Int) * 1 = sgn i * ch t i := by rw [es]; omega
        have cab : (((ch t i : Nat) : Int) * 1).natAbs ≤ 2 ^ 50 := by
          rw [hc, Int.natAbs_mul, sgn_abs, Nat.one_mul, Int.natAbs_natCast]
          exact Nat.le_trans (ch_le t i) (Nat.pow_le_pow_right (by decide) (by omega))
        refine ⟨_, _, rfl, rfl, sm_mul (sm_ch (by omega)) (show (1 : Int).natAbs < 2 ^ 400 from lt400 (i := 1) (by decide) (by decide)), R, rs[i], rs'[t - i], N, Lc t f g i, dd (t - i) i f, dd i (t - i) g, ((ch t i : Nat) : Int) * 1, rfl, hL, q1, q2, ne2 _ (List.getElem_mem hr1), ne3 _ (List.getElem_mem hr2), by omega, by omega, fun z hz => ⟨ok.smf _ _ (by omega) z hz, ?_⟩, ok.smg _ _ (by omega), lt400 cab (by decide), fun H4 s4 f4 => ⟨_, rfl, sH.trans s4, ?_⟩⟩
        · show (_ * z).natAbs < _
          rw [Int.natAbs_mul]
          exact lt400 (Nat.le_trans (Nat.mul_le_mul cab (Nat.le_trans (nm_mem hz) (ok.sf (t - i) i (by omega)))) (Nat.le_of_eq (Nat.pow_add 2 50 150).symm)) (by decide)
        · rw [f4, hc]
          rfl
      · have es : sgn i = -1 := by
          unfold sgn
          rw [if_neg (by have : ¬ ((0 : Int) + (i : Int)) % 2 = 0 := e; omega)]
        have hc : ((ch t i : Nat) : Int) * -1 = sgn i * ch t i := by rw [es]; omega
        have cab : (((ch t i : Nat) : Int) * -1).natAbs ≤ 2 ^ 50 := by
          rw [hc, Int.natAbs_mul, sgn_abs, Nat.one_mul, Int.natAbs_natCast]
          exact Nat.le_trans (ch_le t i) (Nat.pow_le_pow_right (by decide) (by omega))
        refine ⟨_, _, rfl, rfl, sm_mul (sm_ch (by omega)) (show (-1 : Int).natAbs < 2 ^ 400 from lt400 (i := 1) (by decide) (by decide)), R, rs[i], rs'[t - i], N, Lc t f g i, dd (t - i) i f, dd i (t - i) g, ((ch t i : Nat) : Int) * -1, rfl, hL, q1, q2, ne2 _ (List.getElem_mem hr1), ne3 _ (List.getElem_mem hr2), by omega, by omega, fun z hz => ⟨ok.smf _ _ (by omega) z hz, ?_⟩, ok.smg _ _ (by omega), lt400 cab (by decide), fun H4 s4 f4 => ⟨_, rfl, sH.trans s4, ?_⟩⟩
        · show (_ * z).natAbs < _
          rw [Int.natAbs_mul]
          exact lt400 (Nat.le_trans (Nat.mul_le_mul cab (Nat.le_trans (nm_mem hz) (ok.sf (t - i) i (by omega)))) (Nat.le_of_eq (Nat.pow_add 2 50 150).symm)) (by decide)
        · rw [f4, hc]
          rfl
    · obtain ⟨y6, rfl, sH, hL⟩ := hP
      rw [show ((t : Int) + 1).toNat = t + 1 by omega] at hL
      refine ⟨_, rfl, .inl ⟨R, _, rfl, SqL.of hL, fun p np => q p _ (fun d o e => ?_) ?_⟩⟩
      · exact same_upd0 np _ _ (sH _ _ (nHR d o e) ((s01.trans (s2.trans s3)) _ _ e))
      · rw [upd_same, tab_tb, hN, L_tab ok.lf ok.lg]
def spReqForm (C : Addr) : Sp := fun vs H Q _ => ∃ (a : Addr) (l : List Int), vs = [.ref a] ∧ Fo C H a l ∧ Q .non H
theorem ok_require_form (T : Facts K mg) : FnOk P w K mg base CX0 1 T.f_require_form T.fd_require_form ["value"] (spReqForm T.C_Form) := by
  refine T.F_require_form.ok sc_require_form (fun vs H Q E h => ?_) (fun cdv A outer s H vs Q E hr h => ?_)
  · obtain ⟨a, l, rfl, _⟩ := h
    rfl
  · obtain ⟨a, l, rfl, fa, q⟩ := h
    obtain ⟨dx, t, ha, ht⟩ := fa.slt
    refine ⟨_, (PSs.nox (pss_one (ps_if (pt_not (pt_val (pe_callB (call_isiF T.C_Form) (by rfl) T.z_isinstance (by decide +kernel) (pa_cons (pv 0) (pa_cons (pe_glob (v := .ref T.C_Form) (by rfl) T.g_Form rfl) pa_nil)))))
      (pss_one ps_never)
      pss_nil))), ?_⟩
    exact ⟨_, rfl, isi_form (X := (cxOf CX0 P w K mg base N_require_form (Str.ofString "require_form") (defScope s_require_form) T.f_require_form cdv A outer s H E).nox) T.oc_Form ha ⟨true, rfl, iteF q⟩⟩
def spLaid (C : Addr) : Sp := fun vs H Q _ => ∃ (a b : Addr) (f g : List Int) (t : Nat), vs = [.ref a, .ref b, .int t] ∧ Fo C H a f ∧ Fo C H b g ∧ LdOk t f g ∧ f.length + g.length ≤ 42 ∧ ∀ p H', Same H H' → Fo C H' p (L t f g) → Q (.ref p) H'
theorem ok_laid (T : Facts K mg) : FnOk P w K mg base CX0 8 T.f_laid T.fd_laid ["one", "other", "times"] (spLaid T.C_Form) := by
  have G_require_form := ok_require_form (P := P) (w := w) (base := base) T
  have G_is_from := ok_is_from (P := P) (w := w) (base := base) T
  have G_laid_in := ok_laid_in (P := P) (w := w) (base := base) T
  have G_Form_degree : FnOk P w K mg base CX0 1 T.f_Form_degree T.fd_Form_degree ["self"] (spDeg T.C_Form) := ok_Form_degree T
  have G_Form_entries := ok_Form_entries (P := P) (w := w) (base := base) T
  have G_form_of : FnOk P w K mg base CX0 7 T.f_form_of T.fd_form_of ["entries"] (spMake T.C_Form) := ok_form_of T
  refine T.F_laid.ok sc_laid (fun vs H Q E h => ?_) (fun cdv A outer s H vs Q E hr h => ?_)
  · obtain ⟨a, b, f, g, t, rfl, _⟩ := h
    rfl
  · obtain ⟨a, b, f, g, t, rfl, fa, fb, ok, hl, q⟩ := h
    have lf := ok.lf
    have lg := ok.lg
    refine ⟨_, (PSs.nox (pss_cons (ps_expr (pe_call G_require_form (hr.mono (by decide)) (by rfl) T.g_require_form T.F_require_form.kp T.b_require_form .nil pass0 (pa_cons (pv 0) pa_nil)))
    (pss_cons (ps_expr (pe_call G_require_form (hr.mono (by decide)) (by rfl) T.g_require_form T.F_require_form.kp T.b_require_form .nil pass0 (pa_cons (pv 1) pa_nil)))
    (pss_cons (ps_if (pt_not (pt_val (pe_call G_is_from (hr.mono (by decide)) (by rfl) T.g_is_from T.F_is_from.kp T.b_is_from .nil pass0 (pa_cons (pv 2) (pa_cons pe_int (pa_cons (pe_callB (call_min2 (by rfl)) (by rfl) T.z_min (by decide +kernel) (pa_cons (pe_prp (pv 0) T.oc_Form T.pr_Form_degree G_Form_degree T.b_Form_degree (hr.mono (by decide))) (pa_cons (pe_prp (pv 1) T.oc_Form T.pr_Form_degree G_Form_degree T.b_Form_degree (hr.mono (by decide))) pa_nil))) pa_nil))))))
      (pss_one ps_never)
      pss_nil)
    (pss_cons (ps_if (pt_cmpR op_gt (pe_op op_sub (pe_op op_add (pe_prp (pv 0) T.oc_Form T.pr_Form_degree G_Form_degree T.b_Form_degree (hr.mono (by decide))) (pe_prp (pv 1) T.oc_Form T.pr_Form_degree G_Form_degree T.b_Form_degree (hr.mono (by decide)))) (pe_op op_mulW pe_int (pv 2))) (pe_glob (v := .int 40) (by rfl) T.c_MOST_LAID.choose_spec ⟨_, rfl⟩) (nomark _))
      (pss_one ps_never)
      pss_nil)
    (pss_one (ps_ret (pe_call G_form_of hr (by rfl) T.g_form_of T.F_form_of.kp T.b_form_of .nil pass0 (pa_cons (pe_call G_laid_in (hr.mono (by decide)) (by rfl) T.g_laid_in T.F_laid_in.kp T.b_laid_in .nil pass0 (pa_cons (pe_prp (pv 0) T.oc_Form T.pr_Form_entries G_Form_entries T.b_Form_entries (hr.mono (by decide))) (pa_cons (pe_prp (pv 1) T.oc_Form T.pr_Form_entries G_Form_entries T.b_Form_entries (hr.mono (by decide))) (pa_cons (pv 2) pa_nil)))) pa_nil))))))))), ?_⟩
    refine ⟨_, rfl, a, f, rfl, fa, _, rfl, b, g, rfl, fb, ?_⟩
    refine ⟨_, rfl, _, rfl, prop_deg fa ⟨_, rfl, prop_deg fb ⟨_, _, rfl, t, 0, _, rfl, by omega, ?_, true, rfl, iteF ?_⟩⟩⟩
    · split <;> omega
    · refine ⟨_, rfl, prop_deg fa ⟨_, rfl, prop_deg fb ⟨_, _, rfl, rfl, _, rfl, _, _, rfl, rfl, sm_mul (show sm 2 by show (2 : Nat) < 2 ^ 400; exact lt400 (i := 1) (by decide) (by decide)) (sm_le (n := 100) (show ((t : Nat) : Int).natAbs ≤ 100 by omega) (by decide)), _, _, rfl, rfl, _, _, rfl, rfl, _, rfl, ?_⟩⟩⟩
      rw [decide_eq_false (show ¬ (40 : Int) < (f.length : Int) - 1 + ((g.length : Int) - 1) - 2 * (t : Int) by omega)]
      exact iteF ⟨_, rfl, prop_ent fa fun u hu => ⟨_, rfl, prop_ent fb fun v hv => ⟨_, rfl, u, v, f, g, t, rfl, hu, hv, ok, fun p H2 s2 hp => ⟨p, _, rfl, hp, fun p2 H3 s3 n3 f3 => q p2 H3 (s2.trans s3) f3⟩⟩⟩⟩
end
end K52

set_option Elab.async false
set_option linter.all false
set_option maxRecDepth 100000
set_option maxHeartbeats 4000000
namespace K52
open PySem PySem.Spec PyProof.Rows L2 StX RZ MyR SlX OwnR OwnF EnumT
theorem L_swap_list {t : Nat} {f g : List Int} (hf : t + 1 ≤ f.length) (hg : t + 1 ≤ g.length) : L t g f = (L t f g).map (sgn t * ·) :=
  ev_inj (by rw [map_len, L_len t g f hg hf, L_len t f g hf hg, Nat.add_comm g.length]) fun x y => by rw [ev_map, L_swap x y t f g hf hg, sgn_pow]
theorem L_changed_list {a b c e : Int} {t : Nat} {f g : List Int} (hf : t + 1 ≤ f.length) (hg : t + 1 ≤ g.length) :
    L t (changed [a, b] [c, e] f) (changed [a, b] [c, e] g) = (changed [a, b] [c, e] (L t f g)).map fun x => x * (a * e - b * c) ^ t := by
  have l1 := changed_len (X := [a, b]) (Y := [c, e]) rfl rfl (ne_of2 (show 1 ≤ f.length by omega))
  have l2 := changed_len (X := [a, b]) (Y := [c, e]) rfl rfl (ne_of2 (show 1 ≤ g.length by omega))
  have l3 := L_len t f g hf hg
  have n3 : L t f g ≠ [] := ne_of2 (by omega)
  have l4 := changed_len (X := [a, b]) (Y := [c, e]) rfl rfl n3
  rw [map_mul_comm]
  refine ev_inj (by rw [map_len, L_len t _ _ (by omega) (by omega), l1, l2, l4, l3]) fun x y => ?_
  rw [L_changed x y t f g hf hg, ev_map, ev_changed rfl rfl n3, ev2, ev2]
theorem L_bd : ∀ (t : Nat) {f g : List Int} {n m A B : Nat}, Bd f n A → Bd g m B → n ≤ 7 → m ≤ 7 → t ≤ n → t ≤ m → Bd (L t f g) (n + m - 2 * t) (2 ^ (7 * t) * (A * B))
  | 0, f, g, n, m, A, B, hf, hg, _, _, _, _ => by
    have := bd_ml hf hg
    rw [Nat.mul_zero, Nat.pow_zero, Nat.one_mul]
    exact this
  | t + 1, f, g, n, m, A, B, hf, hg, hn, hm, h1, h2 => by
    have lf := hf.len
    have lg := hg.len
    have bx : ∀ {l : List Int} {k C : Nat}, Bd l k C → k ≤ 7 → 1 ≤ k → Bd (dX l) (k - 1) (8 * C) := fun h hk h0 => ⟨by rw [dX_len, h.len]; omega, Nat.le_trans (nm_dX _) (Nat.mul_le_mul (by rw [h.len]; omega) h.nm)⟩
    have by_ : ∀ {l : List Int} {k C : Nat}, Bd l k C → k ≤ 7 → 1 ≤ k → Bd (dY l) (k - 1) (8 * C) := fun h hk h0 => ⟨by rw [dY_len, h.len]; omega, Nat.le_trans (nm_dY _) (Nat.mul_le_mul (by rw [h.len]; omega) h.nm)⟩
    have r1 := L_bd t (bx hf hn (by omega)) (by_ hg hm (by omega)) (by omega) (by omega) (by omega) (by omega)
    have r2 := L_bd t (by_ hf hn (by omega)) (bx hg hm (by omega)) (by omega) (by omega) (by omega) (by omega)
    have r3 := bd_zs' (-1) r1 r2
    rw [show n - 1 + (m - 1) - 2 * t = n + m - 2 * (t + 1) by omega] at r3
    refine r3.mono (Nat.le_of_eq ?_)
    rw [show 7 * (t + 1) = 7 * t + 7 by omega, Nat.pow_add]
    show _ + 1 * _ = _
    generalize 2 ^ (7 * t) = Z
    rw [show (2 : Nat) ^ 7 = 128 by decide]
    grind
theorem dd_nm {l : List Int} {n A i j : Nat} (h : Bd l n A) (hn : n ≤ 7) (hij : i + j ≤ n) : nm (dd i j l) ≤ 2 ^ 21 * A := by
  have hl := h.len
  refine Nat.le_trans (nm_dd i j l (by omega)) (Nat.mul_le_mul ?_ h.nm)
  exact Nat.le_trans (Nat.pow_le_pow_left (show l.length ≤ 8 by omega) _) (Nat.le_trans (Nat.pow_le_pow_right (by decide) (show i + j ≤ 7 by omega)) (by decide))
theorem ldOk_of {f g : List Int} {n m t : Nat} (hf : Bd f n (2 ^ 100)) (hg : Bd g m (2 ^ 100)) (hn : n ≤ 7) (hm : m ≤ 7) (h1 : t ≤ n) (h2 : t ≤ m) : LdOk t f g :=
  ⟨by rw [hf.len]; omega, by rw [hg.len]; omega, by rw [hf.len]; omega, by rw [hg.len]; omega, fun i j hij => Nat.le_trans (dd_nm hf hn (by omega)) (by decide), fun i j hij => Nat.le_trans (dd_nm hg hm (by omega)) (by decide)⟩
section
variable {P : Program} {w : World} {K : PySem.W.Frag} {mg : Str → Option Value} {base : Heap}
theorem ok_law_choose (T : Facts K mg) : FnOk P w K mg base CX0 1 T.f_law_choose T.fd_law_choose ["_law_many", "_law_few"] spLots := by
  refine T.F_law_choose.ok sc_law_choose (fun vs H Q E h => ?_) (fun cdv A outer s H vs Q E hr h => ?_)
  · obtain ⟨n, k, rfl, _⟩ := h
    rfl
  · obtain ⟨n, k, rfl, hk, hn, q⟩ := h
    refine ⟨_, (PSs.nox (pss_cons (ps_set (i := 2) sc_law_choose.nd rfl (.inl rfl) pe_int)
    (pss_cons (ps_for PassesOwn.never (by rfl) (pi_range1 (by rfl) T.z_range (pa_cons (pv 1) pa_nil)) (pg_name (i := 3) sc_law_choose.nd rfl (.inl rfl))
      (pss_one (ps_set (i := 2) sc_law_choose.nd rfl (.inl rfl) (pe_op op_fdivZ (pe_op op_mulW (pv 2) (pe_op op_sub (pv 0) (pv 3))) (pe_op op_add (pv 3) pe_int)))))
    (pss_one (ps_ret (pv 2)))))), ?_⟩
    refine ⟨_, rfl, k, rfl, by omega, by omega, for_range (n := (k : Int).toNat) (fun i σ H' => ∃ y3, σ = [some (.int n), some (.int k), some (.int (ch n i)), y3] ∧ H' = H) ⟨none, by rw [ch_zero]; rfl, rfl⟩ (fun i σ H' hi hP => ?_) (fun σ H' hP => ?_)⟩
    · obtain ⟨y3, rfl, rfl⟩ := hP
      have e := ch_mul n i
      have hi1 : (0 : Int) + (i : Int) + 1 ≠ 0 := by omega
      refine ⟨_, rfl, _, rfl, _, rfl, _, _, rfl, rfl, _, _, rfl, rfl, sm_mul (sm_ch hn) (Nat.lt_of_le_of_lt (show ((n : Int) - (0 + (i : Int))).natAbs ≤ 50 by omega) (Nat.lt_of_lt_of_le (show 50 < 2 ^ 7 by decide) (Nat.pow_le_pow_right (by decide) (by decide)))), _, rfl, _, _, rfl, rfl, _, _, rfl, rfl, ⟨hi1, Nat.lt_trans (PySem.Flt.log2_lt_of (k := 10) (by decide) (by show ((0 : Int) + (i : Int) + 1).natAbs < 2 ^ 10; omega)) (by decide)⟩, some (.int (0 + (i : Int))), ?_, rfl⟩
      have e2 : (((ch n i : Nat) : Int) * ((n : Int) - (0 + (i : Int)))).fdiv (0 + (i : Int) + 1) = ((ch n (i + 1) : Nat) : Int) := by
        rw [Int.zero_add, ← e, Int.mul_fdiv_cancel _ (by omega)]
      show [some (V.int n), some (V.int k), some (V.int ((((ch n i : Nat) : Int) * ((n : Int) - (0 + (i : Int)))).fdiv (0 + (i : Int) + 1))), _] = _
      rw [e2]
    · obtain ⟨y3, rfl, rfl⟩ := hP
      rw [Int.toNat_natCast]
      exact ⟨_, rfl, q⟩
def spRaised : Sp := fun vs H Q _ => ∃ (c : Int) (n : Nat), vs = [.int c, .int n] ∧ (∀ i, i ≤ n → sm (c ^ i)) ∧ sm c ∧ n ≤ 100 ∧ Q (.int (c ^ n)) H
theorem ok_law_raised (T : Facts K mg) : FnOk P w K mg base CX0 1 T.f_law_raised T.fd_law_raised ["_law_number", "_law_times"] spRaised := by
  refine T.F_law_raised.ok sc_law_raised (fun vs H Q E h => ?_) (fun cdv A outer s H vs Q E hr h => ?_)
  · obtain ⟨c, n, rfl, _⟩ := h
    rfl
  · obtain ⟨c, n, rfl, hs, hc, hn, q⟩ := h
    refine ⟨_, (PSs.nox (pss_cons (ps_set (i := 2) sc_law_raised.nd rfl (.inl rfl) pe_int)
    (pss_cons (ps_for PassesOwn.never (by rfl) (pi_range1 (by rfl) T.z_range (pa_cons (pv 1) pa_nil)) (pg_name (i := 3) sc_law_raised.nd rfl (.inl rfl))
      (pss_one (ps_set (i := 2) sc_law_raised.nd rfl (.inl rfl) (pe_op op_mulW (pv 2) (pv 0)))))
    (pss_one (ps_ret (pv 2)))))), ?_⟩
    refine ⟨_, rfl, n, rfl, by omega, by omega, for_range (n := (n : Int).toNat) (fun i σ H' => ∃ y3, σ = [some (.int c), some (.int n), some (.int (c ^ i)), y3] ∧ H' = H) ⟨none, by rw [Int.pow_zero]; rfl, rfl⟩ (fun i σ H' hi hP => ?_) (fun σ H' hP => ?_)⟩
    · obtain ⟨y3, rfl, rfl⟩ := hP
      refine ⟨_, rfl, _, rfl, _, _, rfl, rfl, sm_mul (hs i (by omega)) hc, some (.int (0 + (i : Int))), ?_, rfl⟩
      rw [Int.pow_succ]
      rfl
    · obtain ⟨y3, rfl, rfl⟩ := hP
      rw [Int.toNat_natCast]
      exact ⟨_, rfl, q⟩
theorem ok_law_laid (T : Facts K mg) : FnOk P w K mg base CX0 3 T.f_law_laid T.fd_law_laid ["_law_one", "_law_other", "_law_times"] spLaidIn := by
  have G_law_choose := ok_law_choose (P := P) (w := w) (base := base) T
  have G_law_derived := ok_law_derived (P := P) (w := w) (base := base) T
  have G_law_product := ok_law_product (P := P) (w := w) (base := base) T
  have G_law_plus := ok_law_plus (P := P) (w := w) (base := base) T
  have G_law_scaled := ok_law_scaled (P := P) (w := w) (base := base) T
  refine T.F_law_laid.ok sc_law_laid (fun vs H Q E h => ?_) (fun cdv A outer s H vs Q E hr h => ?_)
  · obtain ⟨a, b, f, g, t, rfl, _⟩ := h
    rfl
  · obtain ⟨a, b, f, g, t, rfl, ha, hb, ok, q⟩ := h
    have lf := ok.lf
    have lg := ok.lg
    have mf := ok.mf
    have mg' := ok.mg
    refine ⟨_, (PSs.nox (pss_cons (ps_set (i := 3) sc_law_laid.nd rfl (.inl rfl) (pe_tupleOf (by rfl) T.z_tuple (pe_lc (own := [("_law_place", 4)]) (g := (gName 4)) (tt := tYes) (by rfl) sc_law_laid.nd (pi_range1 (by rfl) T.z_range (pa_cons (pe_op op_sub (pe_op op_sub (pe_op op_add (pe_callB call_len_seq (by rfl) T.z_len (by decide +kernel) (pa_cons (pv 0) pa_nil)) (pe_callB call_len_seq (by rfl) T.z_len (by decide +kernel) (pa_cons (pv 1) pa_nil))) pe_int) (pe_op op_mulW pe_int (pv 2))) pa_nil)) (blkOk_by (N := N_law_laid) (sc := defScope s_law_laid) (by decide +kernel)) (fun _ _ _ _ _ => (pg_name (i := 4) sc_law_laid.nd rfl (.inl rfl))) (fun _ _ _ _ _ => pts_nil) (fun _ _ _ _ _ => pe_int))))
    (pss_cons (ps_for PassesOwn.never (by rfl) (pi_range1 (by rfl) T.z_range (pa_cons (pe_op op_add (pv 2) pe_int) pa_nil)) (pg_name (i := 5) sc_law_laid.nd rfl (.inl rfl))
      (pss_cons (ps_set (i := 6) sc_law_laid.nd rfl (.inl rfl) (pe_call G_law_product (hr.mono (by decide)) (by rfl) T.g_law_product T.F_law_product.kp T.b_law_product .nil pass0 (pa_cons (pe_call G_law_derived hr (by rfl) T.g_law_derived T.F_law_derived.kp T.b_law_derived .nil pass0 (pa_cons (pv 0) (pa_cons (pe_op op_sub (pv 2) (pv 5)) (pa_cons (pv 5) pa_nil)))) (pa_cons (pe_call G_law_derived hr (by rfl) T.g_law_derived T.F_law_derived.kp T.b_law_derived .nil pass0 (pa_cons (pv 1) (pa_cons (pv 5) (pa_cons (pe_op op_sub (pv 2) (pv 5)) pa_nil)))) pa_nil))))
      (pss_cons (ps_set (i := 7) sc_law_laid.nd rfl (.inl rfl) (pe_call G_law_choose (hr.mono (by decide)) (by rfl) T.g_law_choose T.F_law_choose.kp T.b_law_choose .nil pass0 (pa_cons (pv 2) (pa_cons (pv 5) pa_nil))))
      (pss_one (ps_set (i := 3) sc_law_laid.nd rfl (.inl rfl) (pe_call G_law_plus (hr.mono (by decide)) (by rfl) T.g_law_plus T.F_law_plus.kp T.b_law_plus .nil pass0 (pa_cons (pv 3) (pa_cons (pe_call G_law_scaled (hr.mono (by decide)) (by rfl) T.g_law_scaled T.F_law_scaled.kp T.b_law_scaled .nil pass0 (pa_cons (pv 6) (pa_cons (pe_ifExp (pt_cmpR op_eq (pe_op op_mod (pv 5) pe_int) pe_int (nomark _)) (pv 7) (pe_op op_sub pe_int (pv 7))) pa_nil))) pa_nil))))))))
    (pss_one (ps_ret (pv 3)))))), ?_⟩
    refine ⟨_, rfl, a, _, rfl, .inr (SqT.of ha), _, rfl, b, _, rfl, .inr (SqT.of hb), ?_⟩
    rw [List.length_map, List.length_map]
    refine ⟨_, _, rfl, rfl, _, _, rfl, rfl, _, rfl, _, _, rfl, rfl, sm_mul (show sm 2 by show (2 : Nat) < 2 ^ 400; exact lt400 (i := 1) (by decide) (by decide)) (sm_le (n := 100) (show ((t : Nat) : Int).natAbs ≤ 100 by omega) (by decide)), _, _, rfl, rfl, ?_⟩
    obtain ⟨N, hN⟩ : ∃ N, N = f.length + g.length - 1 - 2 * t := ⟨_, rfl⟩
    have eN : ((f.length : Int) + (g.length : Int) - 1 - 2 * (t : Int)) = (N : Int) := by omega
    dsimp only []
    rw [eN]
    refine ⟨N, rfl, by omega, by omega, fun D hD => lc_range (n := (N : Int).toNat) (fun j H' => H' = upd H D (.lst (tab j fun _ => 0))) rfl (fun j H' hj hP => ?_) (fun H' hP => ?_)⟩
    · subst hP
      refine ⟨rfl, _, upd_same, by rw [tab_len]; exact small1000 (by omega), ?_⟩
      rw [upd_upd, ← tab_snoc]
    · subst hP
      rw [Int.toNat_natCast, tab_tb]
      refine .inl ⟨D, _, rfl, SqL.of upd_same, fun p0 n0 => ?_⟩
      have sD := same_upd0 (o := .lst ((tb N fun _ => (0 : Int)).map V.int)) hD
      refine gen_upd _ p0 (tp (tb N fun _ => 0)) n0 fun H1 s1 f1 => ?_
      have s01 := sD.trans s1
      refine ⟨_, rfl, _, _, rfl, rfl, _, rfl, by omega, by omega, for_range (n := ((t : Int) + 1).toNat) (fun i σ H' => ∃ r y4 y5 y6 y7, σ = [some (.ref a), some (.ref b), some (.int t), some (.ref r), y4, y5, y6, y7] ∧ Same H H' ∧ H' r = some (tp (tb N (Lc t f g i)))) ⟨p0, none, none, none, none, rfl, s01, f1⟩ (fun i σ H' hi hP => ?_) (fun σ H' hP => ?_)⟩
      · obtain ⟨r, y4, y5, y6, y7, rfl, sH, hr2⟩ := hP
        have hi2 : i ≤ t := by omega
        have ei : (0 : Int) + (i : Int) = ((i : Nat) : Int) := by omega
        have et : (t : Int) - (0 + (i : Int)) = ((t - i : Nat) : Int) := by omega
        have l1 := dd_len (t - i) i f
        have l2 := dd_len i (t - i) g
        have of_ : DdOk (t - i) i f := ⟨by omega, by omega, fun u hu z hz => ok.smf u 0 (by omega) z hz, fun u hu z hz => ok.smf (t - i) u (by omega) z hz⟩
        have og : DdOk i (t - i) g := ⟨by omega, by omega, fun u hu z hz => ok.smg u 0 (by omega) z hz, fun u hu z hz => ok.smg i u (by omega) z hz⟩
        have n1 : dd (t - i) i f ≠ [] := ne_of2 (by omega)
        have n2 : dd i (t - i) g ≠ [] := ne_of2 (by omega)
        refine ⟨_, rfl, _, rfl, _, rfl, _, _, rfl, rfl, _, rfl, a, f, t - i, i, ?_, sH _ _ ha, of_, fun p3 H3 s3 f3 => ?_⟩
        · show [V.ref a, V.int ((t : Int) - (0 + (i : Int))), V.int (0 + (i : Int))] = _
          rw [et, ei]
        refine ⟨_, rfl, _, rfl, _, rfl, _, rfl, _, _, rfl, rfl, b, g, i, t - i, ?_, (sH.trans s3) _ _ hb, og, fun p4 H4 s4 f4 => ?_⟩
        · show [V.ref b, V.int (0 + (i : Int)), V.int ((t : Int) - (0 + (i : Int)))] = _
          rw [et, ei]
        refine ⟨p3, p4, _, _, rfl, s4 _ _ f3, f4, n1, n2, by omega, by omega, ok.smf _ _ (by omega), ok.smg _ _ (by omega), fun p5 H5 s5 _ f5 => ?_⟩
        refine ⟨_, rfl, _, rfl, t, i, by rw [ei]; rfl, hi2, by omega, ?_⟩
        have lm : (ml (dd (t - i) i f) (dd i (t - i) g)).length = N := by rw [ml_len]; omega
        have sm5 : ∀ z ∈ ml (dd (t - i) i f) (dd i (t - i) g), sm z := fun z hz => lt400 (Nat.le_trans (nm_mem hz) (Nat.le_trans (nm_ml _ _) (Nat.le_trans (Nat.mul_le_mul (ok.sf (t - i) i (by omega)) (ok.sg i (t - i) (by omega))) (Nat.le_of_eq (Nat.pow_add 2 150 150).symm)))) (by decide)
        have t5 := (s3.trans s4).trans s5
        have fin : ∀ c : Int, c = sgn i * ch t i → ∀ p6 H6, Same H5 H6 → H6 p6 = some (tp ((ml (dd (t - i) i f) (dd i (t - i) g)).map (c * ·))) → H6 r = some (tp (tb N (Lc t f g i))) ∧ (tb N (Lc t f g i)).length = ((ml (dd (t - i) i f) (dd i (t - i) g)).map (c * ·)).length ∧ zs 1 (tb N (Lc t f g i)) ((ml (dd (t - i) i f) (dd i (t - i) g)).map (c * ·)) = tb N (Lc t f g (i + 1)) := fun c hc p6 H6 s6 f6 => by
          have hlen : (tb N (Lc t f g i)).length = ((ml (dd (t - i) i f) (dd i (t - i) g)).map (c * ·)).length := by rw [tb_len, List.length_map, lm]
          refine ⟨(t5.trans s6) _ _ hr2, hlen, co_inj (by rw [zs_len hlen, tb_len, tb_len]) fun k => ?_⟩
          rw [co_zs' 1 hlen, co_map, co_tb, co_tb, hc]
          by_cases hk : k < N
          · rw [if_pos hk, if_pos hk, co_ml n2]
            show _ = Lc t f g i k + sgn i * ch t i * cv (dd (t - i) i f) (co (dd i (t - i) g)) k
            omega
          · rw [if_neg hk, if_neg hk, co_far (by rw [lm]; omega)]
            omega
        have bc : sm ((ch t i : Nat) : Int) := sm_ch (by omega)
        have bc' : sm (0 - ((ch t i : Nat) : Int)) := by
          show (0 - ((ch t i : Nat) : Int)).natAbs < _
          rw [Int.zero_sub, Int.natAbs_neg]
          exact bc
        refine ⟨_, rfl, _, rfl, _, rfl, _, _, rfl, rfl, (by show (0 : Int) < 2; decide), rfl, _, rfl, iteI (fun e => ?_) (fun e => ?_)⟩
        · have es : ((ch t i : Nat) : Int) = sgn i * ch t i := by
            unfold sgn
            rw [if_pos (by have : ((0 : Int) + (i : Int)) % 2 = 0 := e; omega), Int.one_mul]
          refine ⟨_, rfl, p5, _, _, rfl, f5, by rw [lm]; omega, sm5, bc, fun p6 H6 s6 _ f6 => ?_⟩
          obtain ⟨g1, g2, g3⟩ := fin _ es p6 H6 s6 f6
          exact ⟨r, p6, _, _, rfl, g1, f6, g2, by rw [tb_len]; omega, fun p7 H7 s7 _ f7 => ⟨p7, _, _, _, _, rfl, sH.trans ((t5.trans s6).trans s7), by rw [f7, g3]⟩⟩
        · have es : 0 - ((ch t i : Nat) : Int) = sgn i * ch t i := by
            unfold sgn
            rw [if_neg (by have : ¬ ((0 : Int) + (i : Int)) % 2 = 0 := e; omega)]
            omega
          refine ⟨_, rfl, _, _, rfl, rfl, p5, _, _, rfl, f5, by rw [lm]; omega, sm5, bc', fun p6 H6 s6 _ f6 => ?_⟩
          obtain ⟨g1, g2, g3⟩ := fin _ es p6 H6 s6 f6
          exact ⟨r, p6, _, _, rfl, g1, f6, g2, by rw [tb_len]; omega, fun p7 H7 s7 _ f7 => ⟨p7, _, _, _, _, rfl, sH.trans ((t5.trans s6).trans s7), by rw [f7, g3]⟩⟩
      · obtain ⟨r, y4, y5, y6, y7, rfl, sH, hr2⟩ := hP
        rw [show ((t : Int) + 1).toNat = t + 1 by omega, hN, L_tab ok.lf ok.lg] at hr2
        exact ⟨_, rfl, q r H' sH hr2⟩
end
end K52

set_option Elab.async false
set_option linter.all false
set_option maxRecDepth 100000
set_option maxHeartbeats 4000000
namespace K52
open PySem PySem.Spec PyProof.Rows L2 StX RZ MyR SlX OwnR OwnF EnumT
/-! ### rows modulo a number -/
def md (p : Int) (l : List Int) : List Int := l.map (· % p)
theorem md_len (p : Int) (l : List Int) : (md p l).length = l.length := List.length_map ..
theorem md_md (p : Int) (l : List Int) : md p (md p l) = md p l := by
  unfold md
  rw [List.map_map]
  exact List.map_congr_left fun x _ => Int.emod_emod_of_dvd x (Int.dvd_refl p)
theorem co_md (p : Int) (l : List Int) (k : Nat) : co (md p l) k = co l k % p := by
  unfold co md
  rw [List.getD_eq_getElem?_getD, List.getD_eq_getElem?_getD, List.getElem?_map]
  cases l[k]? with
  | none => exact (Int.zero_emod p).symm
  | some x => rfl
theorem eqm_of {p : Int} {a b : List Int} (hl : a.length = b.length) (h : ∀ k, co a k % p = co b k % p) : md p a = md p b :=
  co_inj (by rw [md_len, md_len, hl]) fun k => by rw [co_md, co_md, h k]
theorem eqm_co {p : Int} {a b : List Int} (h : md p a = md p b) (k : Nat) : co a k % p = co b k % p := by rw [← co_md, ← co_md, h]
theorem eqm_len {p : Int} {a b : List Int} (h : md p a = md p b) : a.length = b.length := by rw [← md_len p a, ← md_len p b, h]
theorem md_zs (p : Int) {a h : List Int} (hl : a.length = h.length) : md p (zs p a h) = md p a :=
  eqm_of (zs_len hl) fun k => by rw [co_zs' p hl, Int.add_mul_emod_self_left]
/-- what differs by multiples of p -/
theorem eqm_zs {p : Int} {a b : List Int} (h : md p a = md p b) : ∃ q : List Int, q.length = b.length ∧ a = zs p b q := by
  have hl := eqm_len h
  refine ⟨tb b.length fun k => co a k / p - co b k / p, tb_len _ _, co_inj (by rw [zs_len (tb_len _ _).symm, hl]) fun k => ?_⟩
  rw [co_zs' p (tb_len _ _).symm, co_tb]
  have e := eqm_co h k
  have e1 := Int.emod_add_mul_ediv (co a k) p
  have e2 := Int.emod_add_mul_ediv (co b k) p
  by_cases hk : k < b.length
  · rw [if_pos hk, Int.mul_sub]
    omega
  · rw [if_neg hk, co_far (by omega), co_far (by omega), Int.mul_zero]
    rfl
theorem L_zsl_list {t : Nat} {f h g : List Int} (c : Int) (hl : f.length = h.length) (hf : t + 1 ≤ f.length) (hg : t + 1 ≤ g.length) : L t (zs c f h) g = zs c (L t f g) (L t h g) := by
  have l1 := L_len t f g hf hg
  have l2 := L_len t h g (by omega) hg
  have l3 := zs_len (c := c) hl
  exact ev_inj (by rw [L_len t _ g (by omega) hg, l3, zs_len (by rw [l1, l2, hl]), l1]) fun x y => by rw [L_zsl c x y t f h g hl hf hg, ev_zs c (by rw [l1, l2, hl])]
theorem L_zsr_list {t : Nat} {f g h : List Int} (c : Int) (hl : g.length = h.length) (hf : t + 1 ≤ f.length) (hg : t + 1 ≤ g.length) : L t f (zs c g h) = zs c (L t f g) (L t f h) := by
  have l1 := L_len t f g hf hg
  have l2 := L_len t f h hf (by omega)
  have l3 := zs_len (c := c) hl
  exact ev_inj (by rw [L_len t f _ hf (by omega), l3, zs_len (by rw [l1, l2, hl]), l1]) fun x y => by rw [L_zsr c x y t f g h hl hf hg, ev_zs c (by rw [l1, l2, hl])]
theorem eqm_L {p : Int} {t : Nat} {f f' g g' : List Int} (h1 : md p f = md p f') (h2 : md p g = md p g') (hf : t + 1 ≤ f'.length) (hg : t + 1 ≤ g'.length) : md p (L t f g) = md p (L t f' g') := by
  have lf := eqm_len h1
  have lg := eqm_len h2
  obtain ⟨q, hq, e1⟩ := eqm_zs h1
  obtain ⟨r, hr, e2⟩ := eqm_zs h2
  rw [e1, L_zsl_list p hq.symm hf (by omega), md_zs p (by rw [L_len t _ _ hf (by omega), L_len t _ _ (by omega) (by omega), hq]),
    e2, L_zsr_list p hr.symm hf hg, md_zs p (by rw [L_len t _ _ hf hg, L_len t _ _ hf (by omega), hr])]
theorem ml_zsl {l m h : List Int} (c : Int) (hl : l.length = h.length) (nl : l ≠ []) (nm' : m ≠ []) : ml (zs c l h) m = zs c (ml l m) (ml h m) := by
  have h0 : h ≠ [] := fun e => by
    rw [e] at hl
    exact nl (List.eq_nil_of_length_eq_zero hl)
  have z0 : zs c l h ≠ [] := ne_of2 (by rw [zs_len hl]; exact List.length_pos_iff.mpr nl)
  have e1 : (ml l m).length = (ml h m).length := by rw [ml_len, ml_len, hl]
  refine ev_inj (by rw [ml_len, zs_len hl, zs_len e1, ml_len]) fun x y => ?_
  rw [ev_ml z0 nm', ev_zs c hl, ev_zs c e1, ev_ml nl nm', ev_ml h0 nm']
  grind
theorem ml_zsr {l m h : List Int} (c : Int) (hl : m.length = h.length) (nl : l ≠ []) (nm' : m ≠ []) : ml l (zs c m h) = zs c (ml l m) (ml l h) := by
  have h0 : h ≠ [] := fun e => by
    rw [e] at hl
    exact nm' (List.eq_nil_of_length_eq_zero hl)
  have z0 : zs c m h ≠ [] := ne_of2 (by rw [zs_len hl]; exact List.length_pos_iff.mpr nm')
  have e1 : (ml l m).length = (ml l h).length := by rw [ml_len, ml_len, hl]
  refine ev_inj (by rw [ml_len, zs_len hl, zs_len e1, ml_len]) fun x y => ?_
  rw [ev_ml nl z0, ev_zs c hl, ev_zs c e1, ev_ml nl nm', ev_ml nl h0]
  grind
theorem eqm_ml {p : Int} {l l' m m' : List Int} (h1 : md p l = md p l') (h2 : md p m = md p m') (nl : l' ≠ []) (nm' : m' ≠ []) : md p (ml l m) = md p (ml l' m') := by
  obtain ⟨q, hq, e1⟩ := eqm_zs h1
  obtain ⟨r, hr, e2⟩ := eqm_zs h2
  have n2 : m ≠ [] := ne_of2 (by rw [eqm_len h2]; exact List.length_pos_iff.mpr nm')
  rw [e1, ml_zsl p hq.symm nl n2, md_zs p (by rw [ml_len, ml_len, hq]), e2, ml_zsr p hr.symm nl nm', md_zs p (by rw [ml_len, ml_len, hr])]
theorem eqm_zs2 {p c c' : Int} {a a' b b' : List Int} (hc : c % p = c' % p) (h1 : md p a = md p a') (h2 : md p b = md p b') (hl : a'.length = b'.length) : md p (zs c a b) = md p (zs c' a' b') := by
  have l1 := eqm_len h1
  have l2 := eqm_len h2
  refine eqm_of (by rw [zs_len (by omega), zs_len hl, l1]) fun k => ?_
  rw [co_zs' c (by omega), co_zs' c' hl, Int.add_emod, Int.mul_emod, eqm_co h1, eqm_co h2, hc, ← Int.mul_emod, ← Int.add_emod]
theorem eqm_map {p c c' : Int} {a a' : List Int} (hc : c % p = c' % p) (h1 : md p a = md p a') : md p (a.map (c * ·)) = md p (a'.map (c' * ·)) :=
  eqm_of (by rw [map_len, map_len, eqm_len h1]) fun k => by rw [co_map, co_map, Int.mul_emod, eqm_co h1, hc, ← Int.mul_emod]
theorem eqm_cons {p a a' : Int} {r r' : List Int} (h : md p (a :: r) = md p (a' :: r')) : a % p = a' % p ∧ md p r = md p r' := by
  unfold md at h
  rw [List.map_cons, List.map_cons] at h
  exact ⟨(List.cons.inj h).1, (List.cons.inj h).2⟩
theorem eqm_chg {p : Int} {X X' Y Y' : List Int} (hX : md p X = md p X') (hY : md p Y = md p Y') (lX : X'.length = 2) (lY : Y'.length = 2) : ∀ (r r' f f' q q' : List Int), md p r = md p r' → md p f = md p f' → md p q = md p q' → f' ≠ [] → f'.length = q'.length → md p (chg X Y r f q) = md p (chg X' Y' r' f' q')
  | [], [], f, f', q, q', _, h, _, _, _ => h
  | [], _ :: _, f, f', q, q', hr, _, _, _, _ => by cases hr
  | _ :: _, [], f, f', q, q', hr, _, _, _, _ => by cases hr
  | e :: r, e' :: r', f, f', q, q', hr, hf, hq, nf, hl => by
    obtain ⟨he, hr2⟩ := eqm_cons hr
    have nX : X' ≠ [] := ne_of2 (by omega)
    have nY : Y' ≠ [] := ne_of2 (by omega)
    have pf : 0 < f'.length := List.length_pos_iff.mpr nf
    have nq : q' ≠ [] := ne_of2 (by omega)
    have l1 : (ml f' X').length = f'.length + 1 := by rw [ml_len, lX]; omega
    have l2 : (ml q' Y').length = f'.length + 1 := by rw [ml_len, lY, ← hl]; omega
    have a1 := eqm_ml hf hX nf nX
    have a2 := eqm_ml hq hY nq nY
    exact eqm_chg hX hY lX lY r r' _ _ _ _ hr2 (eqm_zs2 he a1 a2 (by rw [l1, l2])) a2 (ne_of2 (by rw [zs_len (by rw [l1, l2]), l1]; omega)) (by rw [zs_len (by rw [l1, l2]), l1, l2])
theorem eqm_changed {p : Int} {X X' Y Y' l l' : List Int} (hX : md p X = md p X') (hY : md p Y = md p Y') (lX : X'.length = 2) (lY : Y'.length = 2) (hl : md p l = md p l') (nl : l' ≠ []) : md p (changed X Y l) = md p (changed X' Y' l') := by
  have hle := eqm_len hl
  cases l' with
  | nil => exact absurd rfl nl
  | cons a' r' =>
    cases l with
    | nil => cases hle
    | cons a r =>
      obtain ⟨h1, h2⟩ := eqm_cons hl
      refine eqm_chg hX hY lX lY r r' [a] [a'] [1] [1] h2 ?_ rfl (by simp) rfl
      show [a % p] = [a' % p]
      rw [h1]
theorem pow_emod (x p : Int) : ∀ t : Nat, ((x % p) ^ t) % p = x ^ t % p
  | 0 => by rw [Int.pow_zero, Int.pow_zero]
  | t + 1 => by rw [Int.pow_succ, Int.pow_succ, Int.mul_emod, pow_emod x p t, Int.emod_emod_of_dvd x (Int.dvd_refl p), ← Int.mul_emod]
/-! ### what the law asks -/
theorem md_L {p : Int} {t : Nat} {f g : List Int} (hf : t + 1 ≤ f.length) (hg : t + 1 ≤ g.length) : md p (L t (md p f) (md p g)) = md p (L t f g) := eqm_L (md_md p f) (md_md p g) hf hg
theorem md_map (p c : Int) (l : List Int) : md p ((md p l).map (c * ·)) = md p (l.map (c * ·)) := eqm_map rfl (md_md p l)
theorem md_plus (p : Int) {a b : List Int} (h : a.length = b.length) : md p (zs 1 (md p a) (md p b)) = md p (zs 1 a b) := eqm_zs2 rfl (md_md p a) (md_md p b) h
theorem md_nonneg {p : Int} (hp : 0 < p) {l : List Int} : ∀ z ∈ md p l, 0 ≤ z ∧ z < p := fun z hz => by
  obtain ⟨x, _, rfl⟩ := List.mem_map.mp hz
  exact ⟨Int.emod_nonneg _ (by omega), Int.emod_lt_of_pos _ hp⟩
theorem L_ch_md {p a b c e : Int} {t : Nat} {f g : List Int} (hf : t + 1 ≤ f.length) (hg : t + 1 ≤ g.length) :
    md p (L t (md p (changed (md p [a, b]) (md p [c, e]) (md p f))) (md p (changed (md p [a, b]) (md p [c, e]) (md p g))))
      = md p ((md p (changed (md p [a, b]) (md p [c, e]) (md p (L t f g)))).map (((a * e - b * c) % p) ^ t * ·)) := by
  have nf : f ≠ [] := ne_of2 (by omega)
  have ng : g ≠ [] := ne_of2 (by omega)
  have l3 := L_len t f g hf hg
  have nL : L t f g ≠ [] := ne_of2 (by omega)
  have cf := eqm_changed (md_md p [a, b]) (md_md p [c, e]) rfl rfl (md_md p f) nf
  have cg := eqm_changed (md_md p [a, b]) (md_md p [c, e]) rfl rfl (md_md p g) ng
  have cL := eqm_changed (md_md p [a, b]) (md_md p [c, e]) rfl rfl (md_md p (L t f g)) nL
  have lf := changed_len (X := [a, b]) (Y := [c, e]) rfl rfl nf
  have lg := changed_len (X := [a, b]) (Y := [c, e]) rfl rfl ng
  rw [eqm_L ((md_md p _).trans cf) ((md_md p _).trans cg) (by omega) (by omega), L_changed_list hf hg, map_mul_comm]
  exact (eqm_map (pow_emod _ p t) ((md_md p _).trans cL)).symm
end K52

set_option Elab.async false
set_option linter.all false
set_option maxRecDepth 100000
set_option maxHeartbeats 4000000
namespace K52
open PySem PySem.Spec PyProof.Rows L2 StX RZ MyR SlX OwnR OwnF EnumT
/-- the primes -/
def PR : List Int := [13, 17, 19, 23, 29, 31, 37, 41, 43, 47, 53, 59, 61, 67, 71, 73, 79, 83, 89, 97, 101]
theorem pr_bd {p : Int} (h : p ∈ PR) : 13 ≤ p ∧ p ≤ 101 := (by decide : ∀ p ∈ PR, 13 ≤ p ∧ p ≤ 101) p h
theorem pr_any {p : Int} (h : p ∈ PR) : PR.any (· == p) = true := List.any_eq_true.mpr ⟨p, h, by simp⟩
theorem tb_md (p : Int) (l : List Int) : (tb l.length fun k => co l k % p) = md p l := tb_map (fun x => x % p) l
theorem sm20 {x : Int} (h : x.natAbs ≤ 10 ^ 20) : sm x := lt400 (i := 67) (Nat.le_trans h (by decide)) (by decide)
section
variable {P : Program} {w : World} {K : PySem.W.Frag} {mg : Str → Option Value} {base : Heap}
def spReqPrime : Sp := fun vs H Q _ => ∃ p : Int, vs = [.int p] ∧ p ∈ PR ∧ Q .non H
theorem ok_require_prime (T : Facts K mg) : FnOk P w K mg base CX0 3 T.f_require_prime T.fd_require_prime ["value"] spReqPrime := by
  have G_is_short := ok_is_short (P := P) (w := w) (base := base) T
  refine T.F_require_prime.ok sc_require_prime (fun vs H Q E h => ?_) (fun cdv A outer s H vs Q E hr h => ?_)
  · obtain ⟨p, rfl, _⟩ := h
    rfl
  · obtain ⟨p, rfl, hp, q⟩ := h
    refine ⟨_, (PSs.nox (pss_one (ps_if (pw_or (pt_not (pt_val (pe_call G_is_short hr (by rfl) T.g_is_short T.F_is_short.kp T.b_is_short .nil pass0 (pa_cons (pv 0) pa_nil)))) (pw_or1 (pt_cmpR StatT.op_notInTI (pv 0) (pe_glob (v := .ref T.A_PRIMES) (by rfl) T.t_PRIMES.g rfl) (by rfl)))).pt
      (pss_one ps_never)
      pss_nil))), ?_⟩
    obtain ⟨p1, p2⟩ := pr_bd hp
    refine ⟨_, rfl, p, rfl, Nat.lt_of_le_of_lt (show p.natAbs ≤ 101 by omega) (by decide), true, rfl, iteF ⟨_, rfl, p, T.A_PRIMES, PR, rfl, rfl, T.t_PRIMES.sq H, ?_⟩⟩
    rw [pr_any hp]
    exact ⟨false, rfl, iteF q⟩
def spModulo : Sp := fun vs H Q _ => ∃ (p : Int) (t : Addr) (xs : List Int), vs = [.int p, .ref t] ∧ 0 < p ∧ H t = some (tp xs) ∧ xs.length ≤ 100 ∧ ∀ q H', Same H H' → H q = none → H' q = some (tp (md p xs)) → Q (.ref q) H'
theorem ok_modulo (T : Facts K mg) : FnOk P w K mg base CX0 1 T.f_modulo T.fd_modulo ["prime", "numbers"] spModulo := by
  refine T.F_modulo.ok sc_modulo (fun vs H Q E h => ?_) (fun cdv A outer s H vs Q E hr h => ?_)
  · obtain ⟨p, t, xs, rfl, _⟩ := h
    rfl
  · obtain ⟨p, t, xs, rfl, hp, ht, hl, q⟩ := h
    refine ⟨_, (PSs.nox (pss_one (ps_ret (pe_tupleOf (by rfl) T.z_tuple (pe_lc (own := [("number", 2)]) (g := (gName 2)) (tt := tYes) (by rfl) sc_modulo.nd (pi_tup (pv 1)) (blkOk_by (N := N_modulo) (sc := defScope s_modulo) (by decide +kernel)) (fun _ _ _ _ _ => (pg_name (i := 2) sc_modulo.nd rfl (.inl rfl))) (fun _ _ _ _ _ => pts_nil) (fun _ _ _ _ _ => (pe_op op_mod (pv 2) (pv 0)))))))), ?_⟩
    refine ⟨_, rfl, t, rfl, ⟨_, SqT.of ht⟩, fun D hD => lc_tup (xs := xs.map V.int) (fun j H' => H' = upd H D (.lst (tab j fun k => co xs k % p))) rfl (fun j H' _ hP => ?_) (fun j x H' hx hP => ?_) (fun H' hP => ?_)⟩
    · rw [hP]
      exact SqT.of (same_upd0 hD _ _ ht)
    · subst hP
      obtain ⟨hj, rfl⟩ := int_get hx
      refine ⟨rfl, ⟨_, rfl, _, rfl, _, _, rfl, rfl, hp, _, upd_same, ?_, ?_⟩⟩
      · rw [tab_len]
        exact small1000 (by omega)
      · rw [upd_upd, ← tab_snoc]
    · subst hP
      rw [List.length_map, tab_tb, tb_md p xs]
      refine .inl ⟨D, _, rfl, SqL.of upd_same, fun p2 hp2 => ?_⟩
      exact q p2 _ ((same_upd0 hD).trans (same_upd0 hp2)) (Same.free (same_upd0 hD) hp2) upd_same
def spDet : Sp := fun vs H Q _ => ∃ (t : Addr) (a b c e : Int), vs = [.ref t] ∧ Tb H t [a, b] [c, e] ∧ a.natAbs ≤ 10 ^ 20 ∧ b.natAbs ≤ 10 ^ 20 ∧ c.natAbs ≤ 10 ^ 20 ∧ e.natAbs ≤ 10 ^ 20 ∧ Q (.int (a * e - b * c)) H
theorem ok_law_det (T : Facts K mg) : FnOk P w K mg base CX0 1 T.f_law_det T.fd_law_det ["_law_table"] spDet := by
  refine T.F_law_det.ok sc_law_det (fun vs H Q E h => ?_) (fun cdv A outer s H vs Q E hr h => ?_)
  · obtain ⟨t, a, b, c, e, rfl, _⟩ := h
    rfl
  · obtain ⟨t, a, b, c, e, rfl, ⟨r0, r1, f2, k0, k1⟩, ba, bb, bc, be, q⟩ := h
    refine ⟨_, (PSs.nox (pss_one (ps_ret (pe_op op_sub (pe_op op_mulW (pe_ix ix_tup (pe_ix ix_tup (pv 0) pe_int (fun _ _ => rfl)) pe_int (fun _ _ => rfl)) (pe_ix ix_tup (pe_ix ix_tup (pv 0) pe_int (fun _ _ => rfl)) pe_int (fun _ _ => rfl))) (pe_op op_mulW (pe_ix ix_tup (pe_ix ix_tup (pv 0) pe_int (fun _ _ => rfl)) pe_int (fun _ _ => rfl)) (pe_ix ix_tup (pe_ix ix_tup (pv 0) pe_int (fun _ _ => rfl)) pe_int (fun _ _ => rfl))))))), ?_⟩
    refine ⟨_, rfl, t, _, 0, _, rfl, rfl, SqT.of f2, atI_nat (j := 0) rfl, r0, _, 0, _, rfl, rfl, SqT.of k0, atI_nat (j := 0) rfl, _, rfl, t, _, 1, _, rfl, rfl, SqT.of f2, atI_nat (j := 1) rfl, r1, _, 1, _, rfl, rfl, SqT.of k1, atI_nat (j := 1) rfl, _, _, rfl, rfl, sm_mul (sm20 ba) (sm20 be), ?_⟩
    exact ⟨_, rfl, t, _, 0, _, rfl, rfl, SqT.of f2, atI_nat (j := 0) rfl, r0, _, 1, _, rfl, rfl, SqT.of k0, atI_nat (j := 1) rfl, _, rfl, t, _, 1, _, rfl, rfl, SqT.of f2, atI_nat (j := 1) rfl, r1, _, 0, _, rfl, rfl, SqT.of k1, atI_nat (j := 0) rfl, _, _, rfl, rfl, sm_mul (sm20 bb) (sm20 bc), _, _, rfl, rfl, q⟩
theorem ok_determinant_in (T : Facts K mg) : FnOk P w K mg base CX0 1 T.f_determinant_in T.fd_determinant_in ["table"] spDet := by
  refine T.F_determinant_in.ok sc_determinant_in (fun vs H Q E h => ?_) (fun cdv A outer s H vs Q E hr h => ?_)
  · obtain ⟨t, a, b, c, e, rfl, _⟩ := h
    rfl
  · obtain ⟨t, a, b, c, e, rfl, ⟨r0, r1, f2, k0, k1⟩, ba, bb, bc, be, q⟩ := h
    refine ⟨_, (PSs.nox (pss_one (ps_ret (pe_op op_sub (pe_op op_mulW (pe_ix ix_tup (pe_ix ix_tup (pv 0) pe_int (fun _ _ => rfl)) pe_int (fun _ _ => rfl)) (pe_ix ix_tup (pe_ix ix_tup (pv 0) pe_int (fun _ _ => rfl)) pe_int (fun _ _ => rfl))) (pe_op op_mulW (pe_ix ix_tup (pe_ix ix_tup (pv 0) pe_int (fun _ _ => rfl)) pe_int (fun _ _ => rfl)) (pe_ix ix_tup (pe_ix ix_tup (pv 0) pe_int (fun _ _ => rfl)) pe_int (fun _ _ => rfl))))))), ?_⟩
    refine ⟨_, rfl, t, _, 0, _, rfl, rfl, SqT.of f2, atI_nat (j := 0) rfl, r0, _, 0, _, rfl, rfl, SqT.of k0, atI_nat (j := 0) rfl, _, rfl, t, _, 1, _, rfl, rfl, SqT.of f2, atI_nat (j := 1) rfl, r1, _, 1, _, rfl, rfl, SqT.of k1, atI_nat (j := 1) rfl, _, _, rfl, rfl, sm_mul (sm20 ba) (sm20 be), ?_⟩
    exact ⟨_, rfl, t, _, 0, _, rfl, rfl, SqT.of f2, atI_nat (j := 0) rfl, r0, _, 1, _, rfl, rfl, SqT.of k0, atI_nat (j := 1) rfl, _, rfl, t, _, 1, _, rfl, rfl, SqT.of f2, atI_nat (j := 1) rfl, r1, _, 0, _, rfl, rfl, SqT.of k1, atI_nat (j := 0) rfl, _, _, rfl, rfl, sm_mul (sm20 bb) (sm20 bc), _, _, rfl, rfl, q⟩
def spIsPT : Sp := fun vs H Q _ => ∃ (p : Int) (t : Addr) (a b c e : Int), vs = [.int p, .ref t] ∧ 0 < p ∧ Tb H t [a, b] [c, e] ∧ a.natAbs ≤ 10 ^ 20 ∧ b.natAbs ≤ 10 ^ 20 ∧ c.natAbs ≤ 10 ^ 20 ∧ e.natAbs ≤ 10 ^ 20 ∧ (a * e - b * c) % p ≠ 0 ∧ ∀ H', Same H H' → Q (.bl true) H'
theorem ok_is_prime_table (T : Facts K mg) : FnOk P w K mg base CX0 3 T.f_is_prime_table T.fd_is_prime_table ["prime", "value"] spIsPT := by
  have G_is_short := ok_is_short (P := P) (w := w) (base := base) T
  have G_determinant_in := ok_determinant_in (P := P) (w := w) (base := base) T
  refine T.F_is_prime_table.ok sc_is_prime_table (fun vs H Q E h => ?_) (fun cdv A outer s H vs Q E hr h => ?_)
  · obtain ⟨p, t, a, b, c, e, rfl, _⟩ := h
    rfl
  · obtain ⟨p, t, a, b, c, e, rfl, hp, ⟨r0, r1, h1, h2, h3⟩, ba, bb, bc, be, hd, q⟩ := h
    refine ⟨_, (PSs.nox (pss_cons (ps_if (pw_or (pt_not (pt_val (pe_callB call_isi (by rfl) T.z_isinstance (by decide +kernel) (pa_cons (pv 1) (pa_cons (pe_bltn (v := .ty "tuple") (by rfl) T.z_tuple (by decide +kernel) rfl) pa_nil))))) (pw_or1 (pt_cmpR op_ne (pe_callB call_len_seq (by rfl) T.z_len (by decide +kernel) (pa_cons (pv 1) pa_nil)) pe_int (nomark _)))).pt
      (pss_one (ps_ret pe_bl))
      pss_nil)
    (pss_cons (ps_for PassesOwn.never (by rfl) (pi_tup (pv 1)) (pg_name (i := 2) sc_is_prime_table.nd rfl (.inl rfl))
      (pss_one (ps_if (pw_or (pt_not (pt_val (pe_callB call_isi (by rfl) T.z_isinstance (by decide +kernel) (pa_cons (pv 2) (pa_cons (pe_bltn (v := .ty "tuple") (by rfl) T.z_tuple (by decide +kernel) rfl) pa_nil))))) (pw_or (pt_cmpR op_ne (pe_callB call_len_seq (by rfl) T.z_len (by decide +kernel) (pa_cons (pv 2) pa_nil)) pe_int (nomark _)) (pw_or1 (pt_not (pt_val (pe_callB (cr_all (by rfl)) (by rfl) T.z_all (by decide +kernel) (pa_cons (pe_lc (own := [("one", 3)]) (g := (gName 3)) (tt := tYes) (by rfl) sc_is_prime_table.nd (pi_tup (pv 2)) (blkOk_by (N := N_is_prime_table) (sc := defScope s_is_prime_table) (by decide +kernel)) (fun _ _ _ _ _ => (pg_name (i := 3) sc_is_prime_table.nd rfl (.inl rfl))) (fun _ _ _ _ _ => pts_nil) (fun _ _ _ _ _ => (pe_call G_is_short hr (by rfl) T.g_is_short T.F_is_short.kp T.b_is_short .nil pass0 (pa_cons (pv 3) pa_nil)))) pa_nil))))))).pt
        (pss_one (ps_ret pe_bl))
        pss_nil)))
    (pss_one (ps_ret (pe_cmpR op_ne (pe_op op_mod (pe_call G_determinant_in (hr.mono (by decide)) (by rfl) T.g_determinant_in T.F_determinant_in.kp T.b_determinant_in .nil pass0 (pa_cons (pv 1) pa_nil)) (pv 0)) pe_int (nomark _))))))), ?_⟩
    refine ⟨_, rfl, .ref t, .ty "tuple", .type "tuple", .type "tuple", true, rfl, .ty "tuple", .base (.tup h1), kit_ty (show kitB "tuple" "tuple" = some true by decide +kernel), true, rfl, iteF ?_⟩
    refine ⟨_, rfl, t, _, rfl, .inr (SqT.of h1), rfl, _, rfl, iteF ?_⟩
    refine ⟨_, rfl, t, rfl, ⟨_, SqT.of h1⟩, for_tup (xs := [.ref r0, .ref r1]) (fun i σ H' => ∃ y2 y3, σ = [some (.int p), some (.ref t), y2, y3] ∧ Same H H') ⟨none, none, rfl, Same.rf H⟩ (fun i σ H' _ hP => ?_) (fun i x σ H' hx hP => ?_) (fun σ H' hP => ?_)⟩
    · obtain ⟨y2, y3, _, sH⟩ := hP
      exact SqT.of (sH _ _ h1)
    · obtain ⟨y2, y3, rfl, sH⟩ := hP
      have sh : ∀ {z : Int}, z.natAbs ≤ 10 ^ 20 → Sho z := fun h => Nat.lt_of_le_of_lt h (by decide)
      obtain ⟨r, z1, z2, rfl, hr2, b1, b2⟩ : ∃ r z1 z2, x = .ref r ∧ H r = some (tp [z1, z2]) ∧ Sho z1 ∧ Sho z2 := by
        have hm := List.mem_of_getElem? hx
        simp only [List.mem_cons, List.not_mem_nil, or_false] at hm
        rcases hm with e | e <;> rw [e]
        · exact ⟨_, _, _, rfl, h2, sh ba, sh bb⟩
        · exact ⟨_, _, _, rfl, h3, sh bc, sh be⟩
      have hr3 := sH _ _ hr2
      refine ⟨_, rfl, .ref r, .ty "tuple", .type "tuple", .type "tuple", true, rfl, .ty "tuple", .base (.tup hr3), kit_ty (show kitB "tuple" "tuple" = some true by decide +kernel), true, rfl, iteF ?_⟩
      refine ⟨_, rfl, r, _, rfl, .inr (SqT.of hr3), rfl, _, rfl, iteF ?_⟩
      refine ⟨_, rfl, r, rfl, ⟨_, SqT.of hr3⟩, fun D hD => lc_tup (xs := [.int z1, .int z2]) (fun i H2 => H2 = upd H' D (.lst (List.replicate i (V.bl true)))) rfl (fun i H2 _ hP => ?_) (fun i x H2 hx hP => ?_) (fun H2 hP => ?_)⟩
      · rw [hP]
        exact SqT.of (same_upd0 hD _ _ hr3)
      · subst hP
        have hi2 : i < 2 := (List.getElem?_eq_some_iff.mp hx).1
        obtain ⟨z, rfl, hz⟩ : ∃ z, x = .int z ∧ Sho z := by
          have hm := List.mem_of_getElem? hx
          simp only [List.mem_cons, List.not_mem_nil, or_false] at hm
          rcases hm with e | e <;> rw [e]
          · exact ⟨_, rfl, b1⟩
          · exact ⟨_, rfl, b2⟩
        refine ⟨rfl, _, rfl, z, rfl, hz, _, upd_same, ?_, ?_⟩
        · rw [List.length_replicate]
          exact small1000 (by omega)
        · rw [upd_upd, List.replicate_succ']
      · subst hP
        refine ⟨D, [true, true], rfl, SqL.of upd_same, true, rfl, ?_⟩
        exact ⟨_, _, rfl, sH.trans (same_upd0 hD)⟩
    · obtain ⟨y2, y3, rfl, sH⟩ := hP
      have hT : Tb H' t [a, b] [c, e] := ⟨r0, r1, sH _ _ h1, sH _ _ h2, sH _ _ h3⟩
      refine ⟨_, rfl, t, a, b, c, e, rfl, hT, ba, bb, bc, be, _, rfl, _, _, rfl, rfl, hp, rfl, ?_⟩
      have e1 : (V.int ((a * e - b * c) % p) = V.int 0) = False := eq_false fun z => hd (V.int.inj z)
      show Q (V.bl (!decide (V.int ((a * e - b * c) % p) = V.int 0))) H'
      rw [decide_eq_false fun z => hd (V.int.inj z)]
      exact q _ sH
def spReqPT : Sp := fun vs H Q _ => ∃ (p : Int) (t : Addr) (a b c e : Int), vs = [.int p, .ref t] ∧ 0 < p ∧ Tb H t [a, b] [c, e] ∧ a.natAbs ≤ 10 ^ 20 ∧ b.natAbs ≤ 10 ^ 20 ∧ c.natAbs ≤ 10 ^ 20 ∧ e.natAbs ≤ 10 ^ 20 ∧ (a * e - b * c) % p ≠ 0 ∧ ∀ H', Same H H' → Q .non H'
theorem ok_require_prime_table (T : Facts K mg) : FnOk P w K mg base CX0 4 T.f_require_prime_table T.fd_require_prime_table ["prime", "value"] spReqPT := by
  have G_is_prime_table := ok_is_prime_table (P := P) (w := w) (base := base) T
  refine T.F_require_prime_table.ok sc_require_prime_table (fun vs H Q E h => ?_) (fun cdv A outer s H vs Q E hr h => ?_)
  · obtain ⟨p, t, a, b, c, e, rfl, _⟩ := h
    rfl
  · obtain ⟨p, t, a, b, c, e, rfl, hp, hT, ba, bb, bc, be, hd, q⟩ := h
    refine ⟨_, (PSs.nox (pss_one (ps_if (pt_not (pt_val (pe_call G_is_prime_table hr (by rfl) T.g_is_prime_table T.F_is_prime_table.kp T.b_is_prime_table .nil pass0 (pa_cons (pv 0) (pa_cons (pv 1) pa_nil)))))
      (pss_one ps_never)
      pss_nil))), ?_⟩
    exact ⟨_, rfl, _, rfl, p, t, a, b, c, e, rfl, hp, hT, ba, bb, bc, be, hd, fun H' s1 => ⟨true, rfl, iteF (q _ s1)⟩⟩
end
end K52

set_option Elab.async false
set_option linter.all false
set_option maxRecDepth 100000
set_option maxHeartbeats 4000000
namespace K52
open PySem PySem.Spec PyProof.Rows L2 StX RZ MyR SlX OwnR OwnF EnumT
/-- a form over a prime field -/
def Fp (C : Addr) (H : Hp) (a : Addr) (p : Int) (ns : List Int) : Prop := ∃ dx t, H a = some (SlO a C dx [some (.ref t), some (.int p)]) ∧ H dx = some (.xd []) ∧ H t = some (tp ns)
theorem Fp.same {C a : Addr} {H H' : Hp} {p : Int} {ns : List Int} (h : Fp C H a p ns) (s : Same H H') : Fp C H' a p ns := by
  obtain ⟨dx, t, h1, h2, h3⟩ := h
  exact ⟨dx, t, s _ _ h1, s _ _ h2, s _ _ h3⟩
theorem Fp.slt {C a : Addr} {H : Hp} {p : Int} {ns : List Int} (h : Fp C H a p ns) : ∃ dx t, Slt H a C dx [some (.ref t), some (.int p)] ∧ H t = some (tp ns) := by
  obtain ⟨dx, t, h1, h2, h3⟩ := h
  exact ⟨dx, t, .inr ⟨h1, h2⟩, h3⟩
section
variable {P : Program} {w : World} {K : PySem.W.Frag} {mg : Str → Option Value} {base : Heap}
def spPForm (C : Addr) : Sp := fun vs H Q _ => ∃ (x dx t : Addr) (p : Int) (ns : List Int), vs = [.ref x, .int p, .ref t] ∧ Slt H x C dx [] ∧ dx ≠ x ∧ t ≠ dx ∧ p ∈ PR ∧ H t = some (tp ns) ∧ 1 ≤ ns.length ∧ ns.length ≤ 13 ∧ (∀ z ∈ ns, Sho z) ∧
  ∀ H1 H3 e, Same H H1 → Same (slH H1 x C dx [none, some (.int p)]) H3 → H3 e = some (tp (md p ns)) → e ≠ x → e ≠ dx → Q .non (slH H3 x C dx [some (.ref e), some (.int p)])
theorem ok_PrimeForm_init (T : Facts K mg) : FnOk P w K mg base CX0 4 T.f_PrimeForm_init T.fd_PrimeForm_init ["self", "prime", "entries"] (spPForm T.C_PrimeForm) := by
  have G_require_prime := ok_require_prime (P := P) (w := w) (base := base) T
  have G_is_short := ok_is_short (P := P) (w := w) (base := base) T
  have G_modulo := ok_modulo (P := P) (w := w) (base := base) T
  refine T.F_PrimeForm_init.ok sc_PrimeForm_init (fun vs H Q E h => ?_) (fun cdv A outer s H vs Q E hr h => ?_)
  · obtain ⟨x, dx, t, p, ns, rfl, _⟩ := h
    rfl
  · obtain ⟨x, dx, t, p, ns, rfl, hx, hne, xd, hp, ht, h1, h13, hs, q⟩ := h
    refine ⟨_, (PSs.nox (pss_cons (ps_expr (pe_call G_require_prime hr (by rfl) T.g_require_prime T.F_require_prime.kp T.b_require_prime .nil pass0 (pa_cons (pv 1) pa_nil)))
    (pss_cons (ps_if (pw_or (pt_not (pt_val (pe_callB call_isi (by rfl) T.z_isinstance (by decide +kernel) (pa_cons (pv 2) (pa_cons (pe_bltn (v := .ty "tuple") (by rfl) T.z_tuple (by decide +kernel) rfl) pa_nil))))) (pw_or1 (pt_not (pt_chain op_le op_le pe_int (pe_callB call_len_seq (by rfl) T.z_len (by decide +kernel) (pa_cons (pv 2) pa_nil)) (pe_op op_add (pe_glob (v := .int 12) (by rfl) T.c_MOST_DEGREE.choose_spec ⟨_, rfl⟩) pe_int))))).pt
      (pss_one ps_never)
      pss_nil)
    (pss_cons (ps_if (pt_not (pt_val (pe_callB (cr_all (by rfl)) (by rfl) T.z_all (by decide +kernel) (pa_cons (pe_lc (own := [("entry", 3)]) (g := (gName 3)) (tt := tYes) (by rfl) sc_PrimeForm_init.nd (pi_tup (pv 2)) (blkOk_by (N := N_PrimeForm_init) (sc := defScope s_PrimeForm_init) (by decide +kernel)) (fun _ _ _ _ _ => (pg_name (i := 3) sc_PrimeForm_init.nd rfl (.inl rfl))) (fun _ _ _ _ _ => pts_nil) (fun _ _ _ _ _ => (pe_call G_is_short (hr.mono (by decide)) (by rfl) T.g_is_short T.F_is_short.kp T.b_is_short .nil pass0 (pa_cons (pv 3) pa_nil)))) pa_nil))))
      (pss_one ps_never)
      pss_nil)
    (pss_cons (ps_sl (pv 0) (pv 1))
    (pss_one (ps_sl (pv 0) (pe_call G_modulo (hr.mono (by decide)) (by rfl) T.g_modulo T.F_modulo.kp T.b_modulo .nil pass0 (pa_cons (pv 1) (pa_cons (pv 2) pa_nil)))))))))), ?_⟩
    obtain ⟨p1, p2⟩ := pr_bd hp
    refine ⟨_, rfl, p, rfl, hp, ?_⟩
    refine ⟨_, rfl, .ref t, .ty "tuple", .type "tuple", .type "tuple", true, rfl, .ty "tuple", .base (.tup ht), kit_ty (show kitB "tuple" "tuple" = some true by decide +kernel), true, rfl, iteF ?_⟩
    refine ⟨_, rfl, t, _, rfl, .inr (SqT.of ht), 1, _, rfl, rfl, true, ?_, iteT ⟨_, _, rfl, rfl, _, _, rfl, rfl, true, ?_, iteF ?_⟩⟩
    · rw [List.length_map]
      show V.bl (decide ((1 : Int) ≤ (ns.length : Int))) = V.bl true
      rw [decide_eq_true (by omega)]
    · rw [List.length_map]
      show V.bl (decide ((ns.length : Int) ≤ 12 + 1)) = V.bl true
      rw [decide_eq_true (by omega)]
    refine ⟨_, rfl, t, rfl, ⟨_, SqT.of ht⟩, fun D hD => lc_tup (xs := ns.map V.int) (fun i H2 => H2 = upd H D (.lst (List.replicate i (V.bl true)))) rfl (fun i H2 _ hP => ?_) (fun i z H2 hz hP => ?_) (fun H2 hP => ?_)⟩
    · rw [hP]
      exact SqT.of (same_upd0 hD _ _ ht)
    · subst hP
      obtain ⟨hi, rfl⟩ := int_get hz
      refine ⟨rfl, _, rfl, co ns i, rfl, ?_, _, upd_same, ?_, ?_⟩
      · rw [co_get hi]
        exact hs _ (List.getElem_mem hi)
      · rw [List.length_replicate]
        exact small1000 (by omega)
      · rw [upd_upd, List.replicate_succ']
    · subst hP
      refine ⟨D, List.replicate (ns.map V.int).length true, ?_, SqL.of ?_, ?_⟩
      · rfl
      · rw [upd_same, List.map_replicate]
      · refine ⟨true, by rw [show (List.replicate (ns.map V.int).length true).all id = true by simp], iteF ?_⟩
        have s1 := same_upd0 (o := .lst (List.replicate (ns.map V.int).length (V.bl true))) hD
        generalize upd H D (.lst (List.replicate (ns.map V.int).length (V.bl true))) = H1 at s1
        have hx1 := Slt.same hx s1
        have xt : t ≠ x := fun z => by
          rcases hx with ⟨e1, _⟩ | ⟨e1, _⟩ <;> rw [z, e1] at ht <;> cases ht
        refine ⟨_, rfl, _, rfl, x, T.C_PrimeForm, dx, T.a_own_prime, [], 1, rfl, hx1, T.oc_PrimeForm.scl, T.sl_own_prime, ?_⟩
        have ht2 : slH H1 x T.C_PrimeForm dx [none, some (.int p)] t = some (tp ns) := by
          rw [slH_ne xt xd]
          exact s1 _ _ ht
        refine ⟨_, rfl, _, rfl, p, t, ns, rfl, by omega, ht2, by omega, fun e H3 s3 ne h3 => ⟨_, rfl, x, T.C_PrimeForm, dx, T.a_PrimeForm_own_entries, [none, some (.int p)], 0, rfl, ?_, T.oc_PrimeForm.scl, T.sl_PrimeForm_own_entries, ?_⟩⟩
        · exact Slt.same (slH_slt hne) s3
        · have f1 : slH H1 x T.C_PrimeForm dx [none, some (.int p)] x = some (SlO x T.C_PrimeForm dx [none, some (.int p)]) := upd_same
          have f2 : slH H1 x T.C_PrimeForm dx [none, some (.int p)] dx = some (.xd []) := by
            unfold slH
            rw [upd_ne hne, upd_same]
          exact q H1 H3 e s1 s3 h3 (ne_of_none f1 ne).symm (ne_of_none f2 ne).symm
/-- PrimeForm(p, l) -/
theorem mkP {C x dx t : Addr} {H : Hp} {p : Int} {l : List Int} {R : Hp → Prop} (hx : H x = none) (hdx : H dx = none) (hne : dx ≠ x) (ht : H t = some (tp l)) (hp : p ∈ PR) (h1 : 1 ≤ l.length) (h2 : l.length ≤ 13) (hs : ∀ z ∈ l, Sho z) (q : ∀ H', Same H H' → Fp C H' x p (md p l) → R H') :
    spPForm C [.ref x, .int p, .ref t] (upd (upd H dx (.own x)) x (.ins C dx [])) (fun v H2 => v = .non ∧ R H2) E0 := by
  refine ⟨x, dx, t, p, l, rfl, .inl ⟨upd_same, rfl⟩, hne, ne_of_none ht hdx, hp, ?_, h1, h2, hs, fun H1 H3 e s1 s3 h3 ex ed => ⟨rfl, q _ (fun b o eb => ?_) ⟨dx, e, upd_same, ?_, ?_⟩⟩⟩
  · rw [upd_ne (ne_of_none ht hx), upd_ne (ne_of_none ht hdx)]
    exact ht
  · have b1 : b ≠ x := ne_of_none eb hx
    have b2 : b ≠ dx := ne_of_none eb hdx
    rw [slH_ne b1 b2]
    refine s3 _ _ ?_
    rw [slH_ne b1 b2]
    refine s1 _ _ ?_
    rw [upd_ne b1, upd_ne b2]
    exact eb
  · unfold slH
    rw [upd_ne hne, upd_same]
  · rw [slH_ne ex ed]
    exact h3
/-! ### properties, equality -/
def spPEnt (C : Addr) : Sp := fun vs H Q _ => ∃ (a : Addr) (p : Int) (ns : List Int), vs = [.ref a] ∧ Fp C H a p ns ∧ ∀ t, H t = some (tp ns) → Q (.ref t) H
theorem ok_PrimeForm_entries (T : Facts K mg) : FnOk P w K mg base CX0 1 T.f_PrimeForm_entries T.fd_PrimeForm_entries ["self"] (spPEnt T.C_PrimeForm) := by
  refine T.F_PrimeForm_entries.ok sc_PrimeForm_entries (fun vs H Q E h => ?_) (fun cdv A outer s H vs Q E hr h => ?_)
  · obtain ⟨a, p, ns, rfl, _⟩ := h
    rfl
  · obtain ⟨a, p, ns, rfl, fa, q⟩ := h
    obtain ⟨dx, t, ha, ht⟩ := fa.slt
    refine ⟨_, (PSs.nox (pss_one (ps_ret (pe_sl (pv 0))))), ?_⟩
    exact ⟨_, rfl, a, T.C_PrimeForm, dx, T.a_PrimeForm_own_entries, _, 0, .ref t, rfl, ha, T.oc_PrimeForm.scl, T.sl_PrimeForm_own_entries, rfl, q t ht⟩
def spPDeg (C : Addr) : Sp := fun vs H Q _ => ∃ (a : Addr) (p : Int) (ns : List Int), vs = [.ref a] ∧ Fp C H a p ns ∧ Q (.int ((ns.length : Nat) - 1)) H
theorem ok_PrimeForm_degree (T : Facts K mg) : FnOk P w K mg base CX0 1 T.f_PrimeForm_degree T.fd_PrimeForm_degree ["self"] (spPDeg T.C_PrimeForm) := by
  refine T.F_PrimeForm_degree.ok sc_PrimeForm_degree (fun vs H Q E h => ?_) (fun cdv A outer s H vs Q E hr h => ?_)
  · obtain ⟨a, p, ns, rfl, _⟩ := h
    rfl
  · obtain ⟨a, p, ns, rfl, fa, q⟩ := h
    obtain ⟨dx, t, ha, ht⟩ := fa.slt
    refine ⟨_, (PSs.nox (pss_one (ps_ret (pe_op op_sub (pe_callB call_len_seq (by rfl) T.z_len (by decide +kernel) (pa_cons (pe_sl (pv 0)) pa_nil)) pe_int)))), ?_⟩
    refine ⟨_, rfl, a, T.C_PrimeForm, dx, T.a_PrimeForm_own_entries, _, 0, .ref t, rfl, ha, T.oc_PrimeForm.scl, T.sl_PrimeForm_own_entries, rfl, t, _, rfl, .inr (SqT.of ht), _, _, rfl, rfl, ?_⟩
    rw [List.length_map]
    exact q
def spPZero (C : Addr) : Sp := fun vs H Q _ => ∃ (a : Addr) (p : Int) (ns : List Int), vs = [.ref a] ∧ Fp C H a p ns ∧ Q (.bl (!ns.any (· != 0))) H
theorem ok_PrimeForm_is_zero (T : Facts K mg) : FnOk P w K mg base CX0 1 T.f_PrimeForm_is_zero T.fd_PrimeForm_is_zero ["self"] (spPZero T.C_PrimeForm) := by
  refine T.F_PrimeForm_is_zero.ok sc_PrimeForm_is_zero (fun vs H Q E h => ?_) (fun cdv A outer s H vs Q E hr h => ?_)
  · obtain ⟨a, p, ns, rfl, _⟩ := h
    rfl
  · obtain ⟨a, p, ns, rfl, fa, q⟩ := h
    obtain ⟨dx, t, ha, ht⟩ := fa.slt
    refine ⟨_, (PSs.nox (pss_one (ps_ret (pe_not (pe_callB (cr_anyTI (by rfl)) (by rfl) T.z_any (by decide +kernel) (pa_cons (pe_sl (pv 0)) pa_nil)))))), ?_⟩
    refine ⟨_, rfl, a, T.C_PrimeForm, dx, T.a_PrimeForm_own_entries, _, 0, .ref t, rfl, ha, T.oc_PrimeForm.scl, T.sl_PrimeForm_own_entries, rfl, ?_⟩
    exact ⟨t, ns, rfl, SqT.of ht, _, rfl, q⟩
def spPEq (C : Addr) : Sp := fun vs H Q _ => ∃ (a b : Addr) (p : Int) (xs ys : List Int), vs = [.ref a, .ref b] ∧ Fp C H a p xs ∧ Fp C H b p ys ∧ Q (.bl (decide (xs = ys))) H
theorem ok_PrimeForm_eq (T : Facts K mg) : FnOk P w K mg base CX0 1 T.f_PrimeForm_eq T.fd_PrimeForm_eq ["self", "other"] (spPEq T.C_PrimeForm) := by
  refine T.F_PrimeForm_eq.ok sc_PrimeForm_eq (fun vs H Q E h => ?_) (fun cdv A outer s H vs Q E hr h => ?_)
  · obtain ⟨a, b, p, xs, ys, rfl, _⟩ := h
    rfl
  · obtain ⟨a, b, p, xs, ys, rfl, fa, fb, q⟩ := h
    obtain ⟨dx, t, ha, ht⟩ := fa.slt
    obtain ⟨dy, u, hb, hu⟩ := fb.slt
    refine ⟨_, (PSs.nox (pss_cons (ps_if (pt_not (pt_val (pe_callB (call_isiF T.C_PrimeForm) (by rfl) T.z_isinstance (by decide +kernel) (pa_cons (pv 1) (pa_cons (pe_glob (v := .ref T.C_PrimeForm) (by rfl) T.g_PrimeForm rfl) pa_nil)))))
      (pss_one (ps_ret pe_bl))
      pss_nil)
    (pss_one (ps_ret (pe_and (pe_cmpR op_eq (pe_sl (pv 0)) (pe_sl (pv 1)) (nomark _)) (pe_one (pe_cmpR (op_eqD (hu64 hr)) (pe_sl (pv 0)) (pe_sl (pv 1)) (nomark _)))))))), ?_⟩
    refine ⟨_, rfl, .inr ⟨b, T.C_PrimeForm, dy, _, .ref T.C_PrimeForm, true, rfl, rfl, fun w r => r, hb, T.oc_PrimeForm.scl, T.oc_PrimeForm.sis, T.oc_PrimeForm.kself, true, rfl, iteF ?_⟩⟩
    refine ⟨_, rfl, a, T.C_PrimeForm, dx, T.a_own_prime, _, 1, .int p, rfl, ha, T.oc_PrimeForm.scl, T.sl_own_prime, rfl, _, rfl, b, T.C_PrimeForm, dy, T.a_own_prime, _, 1, .int p, rfl, hb, T.oc_PrimeForm.scl, T.sl_own_prime, rfl, rfl, true, by rw [decide_eq_true rfl], iteT ?_⟩
    refine ⟨_, rfl, a, T.C_PrimeForm, dx, T.a_PrimeForm_own_entries, _, 0, .ref t, rfl, ha, T.oc_PrimeForm.scl, T.sl_PrimeForm_own_entries, rfl, _, rfl, b, T.C_PrimeForm, dy, T.a_PrimeForm_own_entries, _, 0, .ref u, rfl, hb, T.oc_PrimeForm.scl, T.sl_PrimeForm_own_entries, rfl, ?_⟩
    exact eq_ints (SqT.of ht) (SqT.of hu) q
end
end K52

set_option Elab.async false
set_option linter.all false
set_option maxRecDepth 100000
set_option maxHeartbeats 4000000
namespace K52
open PySem PySem.Spec PyProof.Rows L2 StX RZ MyR SlX OwnR OwnF EnumT
theorem prop_pent {C a : Addr} {H : Hp} {p : Int} {xs : List Int} {Q : VK} (fa : Fp C H a p xs) (q : ∀ t, H t = some (tp xs) → Q (.ref t) H) : ∃ a' dx vs, V.ref a = .ref a' ∧ Slt H a' C dx vs ∧ spPEnt C [.ref a'] H Q E0 := by
  obtain ⟨dx, t, ha, ht⟩ := fa.slt
  exact ⟨a, dx, _, rfl, ha, a, p, xs, rfl, fa, q⟩
theorem prop_pdeg {C a : Addr} {H : Hp} {p : Int} {xs : List Int} {Q : VK} (fa : Fp C H a p xs) (q : Q (.int ((xs.length : Nat) - 1)) H) : ∃ a' dx vs, V.ref a = .ref a' ∧ Slt H a' C dx vs ∧ spPDeg C [.ref a'] H Q E0 := by
  obtain ⟨dx, t, ha, ht⟩ := fa.slt
  exact ⟨a, dx, _, rfl, ha, a, p, xs, rfl, fa, q⟩
theorem prop_pzero {C a : Addr} {H : Hp} {p : Int} {xs : List Int} {Q : VK} (fa : Fp C H a p xs) (q : Q (.bl (!xs.any (· != 0))) H) : ∃ a' dx vs, V.ref a = .ref a' ∧ Slt H a' C dx vs ∧ spPZero C [.ref a'] H Q E0 := by
  obtain ⟨dx, t, ha, ht⟩ := fa.slt
  exact ⟨a, dx, _, rfl, ha, a, p, xs, rfl, fa, q⟩
theorem sho_md {p : Int} (hp : p ∈ PR) {l : List Int} : ∀ z ∈ md p l, Sho z := fun z hz => by
  obtain ⟨p1, p2⟩ := pr_bd hp
  obtain ⟨h1, h2⟩ := md_nonneg (p := p) (by omega) z hz
  exact Nat.lt_of_le_of_lt (show z.natAbs ≤ 101 by omega) (by decide)
section
variable {P : Program} {w : World} {K : PySem.W.Frag} {mg : Str → Option Value} {base : Heap}
def spPLaid (C : Addr) : Sp := fun vs H Q _ => ∃ (a b : Addr) (p : Int) (f g : List Int) (t : Nat), vs = [.ref a, .ref b, .int (t : Int)] ∧ Fp C H a p f ∧ Fp C H b p g ∧ p ∈ PR ∧ LdOk t f g ∧ f.length + g.length ≤ 14 + 2 * t ∧ ∀ q H', Same H H' → Fp C H' q p (md p (L t f g)) → Q (.ref q) H'
theorem ok_PrimeForm_laid (T : Facts K mg) : FnOk P w K mg base CX0 6 T.f_PrimeForm_laid T.fd_PrimeForm_laid ["self", "other", "times"] (spPLaid T.C_PrimeForm) := by
  have G_is_from := ok_is_from (P := P) (w := w) (base := base) T
  have G_laid_in := ok_laid_in (P := P) (w := w) (base := base) T
  have G_modulo := ok_modulo (P := P) (w := w) (base := base) T
  have G_PrimeForm_init := ok_PrimeForm_init (P := P) (w := w) (base := base) T
  have G_PrimeForm_degree := ok_PrimeForm_degree (P := P) (w := w) (base := base) T
  refine T.F_PrimeForm_laid.ok sc_PrimeForm_laid (fun vs H Q E h => ?_) (fun cdv A outer s H vs Q E hr h => ?_)
  · obtain ⟨a, b, p, f, g, t, rfl, _⟩ := h
    rfl
  · obtain ⟨a, b, p, f, g, t, rfl, fa, fb, hp, ld, hl, q⟩ := h
    obtain ⟨dx, u, ha, hu⟩ := fa.slt
    obtain ⟨dy, v, hb, hv⟩ := fb.slt
    have lf := ld.lf
    have lg := ld.lg
    obtain ⟨p1, p2⟩ := pr_bd hp
    refine ⟨_, (PSs.nox (pss_cons (ps_if (pw_or (pt_not (pt_val (pe_callB (call_isiF T.C_PrimeForm) (by rfl) T.z_isinstance (by decide +kernel) (pa_cons (pv 1) (pa_cons (pe_glob (v := .ref T.C_PrimeForm) (by rfl) T.g_PrimeForm rfl) pa_nil))))) (pw_or1 (pt_cmpR op_ne (pe_sl (pv 1)) (pe_sl (pv 0)) (nomark _)))).pt
      (pss_one ps_never)
      pss_nil)
    (pss_cons (ps_if (pt_not (pt_val (pe_call G_is_from (hr.mono (by decide)) (by rfl) T.g_is_from T.F_is_from.kp T.b_is_from .nil pass0 (pa_cons (pv 2) (pa_cons pe_int (pa_cons (pe_callB (call_min2 (by rfl)) (by rfl) T.z_min (by decide +kernel) (pa_cons (pe_prp (pv 0) T.oc_PrimeForm T.pr_PrimeForm_degree G_PrimeForm_degree T.b_PrimeForm_degree (hr.mono (by decide))) (pa_cons (pe_prp (pv 1) T.oc_PrimeForm T.pr_PrimeForm_degree G_PrimeForm_degree T.b_PrimeForm_degree (hr.mono (by decide))) pa_nil))) pa_nil))))))
      (pss_one ps_never)
      pss_nil)
    (pss_cons (ps_if (pt_cmpR op_gt (pe_op op_sub (pe_op op_add (pe_prp (pv 0) T.oc_PrimeForm T.pr_PrimeForm_degree G_PrimeForm_degree T.b_PrimeForm_degree (hr.mono (by decide))) (pe_prp (pv 1) T.oc_PrimeForm T.pr_PrimeForm_degree G_PrimeForm_degree T.b_PrimeForm_degree (hr.mono (by decide)))) (pe_op op_mulW pe_int (pv 2))) (pe_glob (v := .int 12) (by rfl) T.c_MOST_DEGREE.choose_spec ⟨_, rfl⟩) (nomark _))
      (pss_one ps_never)
      pss_nil)
    (pss_one (ps_ret (pe_make T.mk_PrimeForm G_PrimeForm_init (hr.mono (by decide)) (by rfl) T.g_PrimeForm T.b_PrimeForm_init .nil pass0 (pa_cons (pe_sl (pv 0)) (pa_cons (pe_call G_modulo (hr.mono (by decide)) (by rfl) T.g_modulo T.F_modulo.kp T.b_modulo .nil pass0 (pa_cons (pe_sl (pv 0)) (pa_cons (pe_call G_laid_in (hr.mono (by decide)) (by rfl) T.g_laid_in T.F_laid_in.kp T.b_laid_in .nil pass0 (pa_cons (pe_sl (pv 0)) (pa_cons (pe_sl (pv 1)) (pa_cons (pv 2) pa_nil)))) pa_nil))) pa_nil))))))))), ?_⟩
    refine ⟨_, rfl, .inr ⟨b, T.C_PrimeForm, dy, _, .ref T.C_PrimeForm, true, rfl, rfl, fun w r => r, hb, T.oc_PrimeForm.scl, T.oc_PrimeForm.sis, T.oc_PrimeForm.kself, true, rfl, iteF ?_⟩⟩
    refine ⟨_, rfl, b, T.C_PrimeForm, dy, T.a_own_prime, _, 1, .int p, rfl, hb, T.oc_PrimeForm.scl, T.sl_own_prime, rfl, _, rfl, a, T.C_PrimeForm, dx, T.a_own_prime, _, 1, .int p, rfl, ha, T.oc_PrimeForm.scl, T.sl_own_prime, rfl, rfl, false, by rw [decide_eq_true rfl]; rfl, iteF ?_⟩
    refine ⟨_, rfl, _, rfl, prop_pdeg fa ⟨_, rfl, prop_pdeg fb ⟨_, _, rfl, t, 0, _, rfl, by omega, ?_, true, rfl, iteF ?_⟩⟩⟩
    · split <;> omega
    refine ⟨_, rfl, prop_pdeg fa ⟨_, rfl, prop_pdeg fb ⟨_, _, rfl, rfl, _, rfl, _, _, rfl, rfl, sm_mul (show sm 2 from lt400 (i := 1) (by decide) (by decide)) (sm_le (n := 100) (show ((t : Nat) : Int).natAbs ≤ 100 by have := ld.mf; omega) (by decide)), _, _, rfl, rfl, _, _, rfl, rfl, _, rfl, ?_⟩⟩⟩
    rw [decide_eq_false (show ¬ (12 : Int) < (f.length : Int) - 1 + ((g.length : Int) - 1) - 2 * (t : Int) by omega)]
    refine iteF ?_
    refine ⟨_, rfl, a, T.C_PrimeForm, dx, T.a_own_prime, _, 1, .int p, rfl, ha, T.oc_PrimeForm.scl, T.sl_own_prime, rfl, _, rfl, a, T.C_PrimeForm, dx, T.a_own_prime, _, 1, .int p, rfl, ha, T.oc_PrimeForm.scl, T.sl_own_prime, rfl, _, rfl, a, T.C_PrimeForm, dx, T.a_PrimeForm_own_entries, _, 0, .ref u, rfl, ha, T.oc_PrimeForm.scl, T.sl_PrimeForm_own_entries, rfl, _, rfl, b, T.C_PrimeForm, dy, T.a_PrimeForm_own_entries, _, 0, .ref v, rfl, hb, T.oc_PrimeForm.scl, T.sl_PrimeForm_own_entries, rfl, _, rfl, u, v, f, g, t, rfl, hu, hv, ld, fun q1 H2 s2 h2 => ?_⟩
    have lL := L_len t f g lf lg
    refine ⟨p, q1, _, rfl, by omega, h2, by omega, fun q2 H3 s3 n3 h3 => fun x dx x1 x2 x3 => mkP x1 x2 x3 h3 hp (by rw [md_len]; omega) (by rw [md_len]; omega) (sho_md hp) fun H4 s4 f4 => ?_⟩
    rw [md_md] at f4
    exact q x H4 (s2.trans (s3.trans s4)) f4
end
end K52

set_option Elab.async false
set_option linter.all false
set_option maxRecDepth 100000
set_option maxHeartbeats 4000000
namespace K52
open PySem PySem.Spec PyProof.Rows L2 StX RZ MyR SlX OwnR OwnF EnumT
/-- rows so far in the list at D -/
def Bl (H : Hp) (D : Addr) (φ : Nat → List Int) (i : Nat) : Prop := ∃ rs : List Addr, H D = some (.lst (rs.map V.ref)) ∧ rs.length = i ∧ ∀ k (hk : k < rs.length), H rs[k] = some (tp (φ k))
theorem Bl.nil {H : Hp} {D : Addr} {φ : Nat → List Int} : Bl (upd H D (.lst [])) D φ 0 := ⟨[], upd_same, rfl, fun k hk => absurd hk (Nat.not_lt_zero k)⟩
theorem Bl.step {Hs H H2 : Hp} {D p : Addr} {φ : Nat → List Int} {i : Nat} (hP : Same Hs H ∧ Bl H D φ i) (hD : Hs D = none) (s : Same H H2) (hp : H2 p = some (tp (φ i))) (hi : i + 1 ≤ 1000) :
    ∃ acc, H2 D = some (.lst acc) ∧ acc.length < sizeLine ∧ (Same Hs (upd H2 D (.lst (acc ++ [.ref p]))) ∧ Bl (upd H2 D (.lst (acc ++ [.ref p]))) D φ (i + 1)) := by
  obtain ⟨sH, rs, hL, lr, hrow⟩ := hP
  have hL2 := s _ _ hL
  refine ⟨_, hL2, by rw [List.length_map, lr]; exact small1000 (by omega), fun d o e => ?_, rs ++ [p], by rw [upd_same, List.map_append]; rfl, by rw [List.length_append, lr]; rfl, fun k hk => ?_⟩
  · rw [upd_ne (ne_of_none e hD)]
    exact s _ _ (sH _ _ e)
  · by_cases c : k < rs.length
    · rw [show (rs ++ [p])[k] = rs[k] from List.getElem_append_left _]
      have e0 := s _ _ (hrow k c)
      rw [upd_ne (fun z => by rw [z, hL2] at e0; cases e0)]
      exact e0
    · have ek : k = rs.length := by rw [List.length_append] at hk; simp at hk; omega
      subst ek
      rw [show (rs ++ [p])[rs.length] = p by rw [List.getElem_append_right (Nat.le_refl _)]; simp, upd_ne (fun z => by rw [z, hL2] at hp; cases hp), hp, lr]
theorem rw_md {p : Int} (hp : p ∈ PR) {l : List Int} (h0 : l ≠ []) (hl : l.length ≤ 100) : Rw (md p l) := ⟨fun e => h0 (List.map_eq_nil_iff.mp e), by rw [md_len]; exact hl, fun z hz => by
  obtain ⟨p1, p2⟩ := pr_bd hp
  obtain ⟨h1, h2⟩ := md_nonneg (p := p) (by omega) z hz
  exact sm_le (n := 101) (show z.natAbs ≤ 101 by omega) (by decide)⟩
theorem bd_md {p : Int} (hp : p ∈ PR) {l : List Int} {n : Nat} (h : l.length = n + 1) : Bd (md p l) n ((n + 1) * 101) := ⟨by rw [md_len, h], by
  obtain ⟨p1, p2⟩ := pr_bd hp
  have := nm_le (b := 101) (l := md p l) fun z hz => by
    obtain ⟨h1, h2⟩ := md_nonneg (p := p) (by omega) z hz
    omega
  rw [md_len, h] at this
  exact this⟩
theorem two_lt {i : Nat} (h : i < 400) : 2 ^ i < 2 ^ 400 := Nat.pow_lt_pow_right (by decide) h
theorem chOk_md {p : Int} (hp : p ∈ PR) {X Y l : List Int} (hX : X.length = 2) (hY : Y.length = 2) (h1 : 1 ≤ l.length) (h2 : l.length ≤ 13) : ChOk (md p X) (md p Y) (md p l).tail [co (md p l) 0] [1] := by
  obtain ⟨n, hn⟩ : ∃ n, l.length = n + 1 := ⟨l.length - 1, by omega⟩
  refine changed_ok (n := n) (b := 256) (B := 2 ^ 20) (by decide) ((bd_md hp hX).mono (by decide)) ((bd_md hp hY).mono (by decide)) ((bd_md hp hn).mono ?_) (by omega) ?_
  · have : (n + 1) * 101 ≤ 13 * 101 := Nat.mul_le_mul (by omega) (by decide)
    exact Nat.le_trans this (by decide)
  · refine Nat.lt_of_le_of_lt (Nat.mul_le_mul (Nat.le_refl _) (Nat.pow_le_pow_right (by decide) (show n ≤ 12 by omega))) ?_
    exact Nat.lt_of_le_of_lt (show (2 ^ 20 + 1) * 256 ^ 12 ≤ 2 ^ 120 by decide) (two_lt (by decide))
section
variable {P : Program} {w : World} {K : PySem.W.Frag} {mg : Str → Option Value} {base : Heap}
/-- changed forms: the row is taken modulo p -/
def spChM (C : Addr) : Sp := fun vs H Q _ => ∃ (a t : Addr) (p : Int) (l : List Int) (a1 b1 c1 e1 : Int), vs = [.ref a, .ref t] ∧ Fp C H a p (md p l) ∧ p ∈ PR ∧ Tb H t [a1, b1] [c1, e1] ∧ 1 ≤ l.length ∧ l.length ≤ 13 ∧ ∀ q H', Same H H' → Fp C H' q p (md p (changed (md p [a1, b1]) (md p [c1, e1]) (md p l))) → Q (.ref q) H'
theorem ok_changed_modulo (T : Facts K mg) : FnOk P w K mg base CX0 6 T.f_changed_modulo T.fd_changed_modulo ["form", "table"] (spChM T.C_PrimeForm) := by
  have G_changed_in := ok_changed_in (P := P) (w := w) (base := base) T
  have G_modulo := ok_modulo (P := P) (w := w) (base := base) T
  have G_PrimeForm_init := ok_PrimeForm_init (P := P) (w := w) (base := base) T
  refine T.F_changed_modulo.ok sc_changed_modulo (fun vs H Q E h => ?_) (fun cdv A outer s H vs Q E hr h => ?_)
  · obtain ⟨a, t, p, l, a1, b1, c1, e1, rfl, _⟩ := h
    rfl
  · obtain ⟨a, t, p, l, a1, b1, c1, e1, rfl, fa, hp, ⟨r0, r1, h1, h2, h3⟩, l1, l13, q⟩ := h
    refine ⟨_, (PSs.nox (pss_cons (ps_set (i := 2) sc_changed_modulo.nd rfl (.inl rfl) (pe_tupleOf (by rfl) T.z_tuple (pe_lc (own := [("row", 3)]) (g := (gName 3)) (tt := tYes) (by rfl) sc_changed_modulo.nd (pi_tup (pv 1)) (blkOk_by (N := N_changed_modulo) (sc := defScope s_changed_modulo) (by decide +kernel)) (fun _ _ _ _ _ => (pg_name (i := 3) sc_changed_modulo.nd rfl (.inl rfl))) (fun _ _ _ _ _ => pts_nil) (fun _ _ _ _ _ => (pe_call G_modulo (hr.mono (by decide)) (by rfl) T.g_modulo T.F_modulo.kp T.b_modulo .nil pass0 (pa_cons (SlotK.pe_slK (K := K) (by rfl) (pv 0)) (pa_cons (pv 3) pa_nil)))))))
    (pss_one (ps_ret (pe_make T.mk_PrimeForm G_PrimeForm_init (hr.mono (by decide)) (by rfl) T.g_PrimeForm T.b_PrimeForm_init .nil pass0 (pa_cons (pe_sl (pv 0)) (pa_cons (pe_call G_modulo (hr.mono (by decide)) (by rfl) T.g_modulo T.F_modulo.kp T.b_modulo .nil pass0 (pa_cons (pe_sl (pv 0)) (pa_cons (pe_call G_changed_in (hr.mono (by decide)) (by rfl) T.g_changed_in T.F_changed_in.kp T.b_changed_in .nil pass0 (pa_cons (pe_sl (pv 0)) (pa_cons (pv 2) pa_nil))) pa_nil))) pa_nil))))))), ?_⟩
    obtain ⟨p1, p2⟩ := pr_bd hp
    refine ⟨_, rfl, t, rfl, ⟨_, SqT.of h1⟩, fun D hD => lc_tup (xs := [.ref r0, .ref r1]) (fun i H' => Same H H' ∧ Bl H' D (fun k => md p (if k = 0 then [a1, b1] else [c1, e1])) i) ⟨same_upd0 hD, Bl.nil⟩ (fun i H' _ hP => SqT.of (hP.1 _ _ h1)) (fun i x H' hx hP => ?_) (fun H' hP => ?_)⟩
    · have hi2 : i < 2 := (List.getElem?_eq_some_iff.mp hx).1
      have sH := hP.1
      obtain ⟨r, rfl, hr2⟩ : ∃ r, x = .ref r ∧ H r = some (tp (if i = 0 then [a1, b1] else [c1, e1])) := by
        match i, hi2, hx with
        | 0, _, hx => cases hx; exact ⟨_, rfl, h2⟩
        | 1, _, hx => cases hx; exact ⟨_, rfl, h3⟩
      obtain ⟨dx, u, ha, hu⟩ := (fa.same sH).slt
      refine ⟨rfl, _, rfl, a, T.C_PrimeForm, dx, T.a_own_prime, _, 1, .int p, rfl, ha, T.oc_PrimeForm.scl, T.sl_own_prime, rfl, _, rfl, p, r, _, rfl, by omega, sH _ _ hr2, by split <;> exact (by decide : 2 ≤ 100), fun q1 H2 s2 n2 h4 => Bl.step hP hD s2 h4 (by omega)⟩
    · obtain ⟨sH, rs, hL, lr, hrow⟩ := hP
      obtain ⟨u0, u1, rfl⟩ : ∃ u0 u1, rs = [u0, u1] := by
        match rs, lr with
        | [u0, u1], _ => exact ⟨u0, u1, rfl⟩
      have k0 : H' u0 = some (tp (md p [a1, b1])) := hrow 0 (by simp)
      have k1 : H' u1 = some (tp (md p [c1, e1])) := hrow 1 (by simp)
      refine .inl ⟨D, _, rfl, SqL.of hL, fun p2 hp2 => gen_upd H' p2 (.tup [.ref u0, .ref u1]) hp2 fun H3 s3 h4 => ?_⟩
      have s13 := sH.trans s3
      obtain ⟨dx, u, ha, hu⟩ := (fa.same s13).slt
      have hT : Tb H3 p2 (md p [a1, b1]) (md p [c1, e1]) := ⟨u0, u1, h4, s3 _ _ k0, s3 _ _ k1⟩
      have n0 : l ≠ [] := ne_of2 l1
      refine ⟨_, rfl, a, T.C_PrimeForm, dx, T.a_own_prime, _, 1, .int p, rfl, ha, T.oc_PrimeForm.scl, T.sl_own_prime, rfl, _, rfl, a, T.C_PrimeForm, dx, T.a_own_prime, _, 1, .int p, rfl, ha, T.oc_PrimeForm.scl, T.sl_own_prime, rfl, _, rfl, a, T.C_PrimeForm, dx, T.a_PrimeForm_own_entries, _, 0, .ref u, rfl, ha, T.oc_PrimeForm.scl, T.sl_PrimeForm_own_entries, rfl, _, rfl, u, p2, md p l, md p [a1, b1], md p [c1, e1], rfl, hu, hT, (rw_md hp n0 (by omega)).ne, by rw [md_len]; omega, rfl, rfl, rw_md hp (by simp) (by simp), rw_md hp (by simp) (by simp), chOk_md hp rfl rfl l1 l13, fun q1 H4 s4 h5 => ?_⟩
      have lc : (changed (md p [a1, b1]) (md p [c1, e1]) (md p l)).length = l.length := by rw [changed_len rfl rfl (rw_md hp n0 (by omega)).ne, md_len]
      refine ⟨p, q1, _, rfl, by omega, h5, by omega, fun q2 H5 s5 n5 h6 => fun x dx x1 x2 x3 => mkP x1 x2 x3 h6 hp (by rw [md_len]; omega) (by rw [md_len]; omega) (sho_md hp) fun H6 s6 f6 => ?_⟩
      rw [md_md] at f6
      exact q x H6 (s13.trans (s4.trans (s5.trans s6))) f6
def spPChanged (C : Addr) : Sp := fun vs H Q _ => ∃ (a t : Addr) (p : Int) (l : List Int) (a1 b1 c1 e1 : Int), vs = [.ref a, .ref t] ∧ Fp C H a p (md p l) ∧ p ∈ PR ∧ Tb H t [a1, b1] [c1, e1] ∧ a1.natAbs ≤ 10 ^ 20 ∧ b1.natAbs ≤ 10 ^ 20 ∧ c1.natAbs ≤ 10 ^ 20 ∧ e1.natAbs ≤ 10 ^ 20 ∧ (a1 * e1 - b1 * c1) % p ≠ 0 ∧ 1 ≤ l.length ∧ l.length ≤ 13 ∧ ∀ q H', Same H H' → Fp C H' q p (md p (changed (md p [a1, b1]) (md p [c1, e1]) (md p l))) → Q (.ref q) H'
theorem ok_PrimeForm_changed (T : Facts K mg) : FnOk P w K mg base CX0 7 T.f_PrimeForm_changed T.fd_PrimeForm_changed ["self", "table"] (spPChanged T.C_PrimeForm) := by
  have G_require_prime_table := ok_require_prime_table (P := P) (w := w) (base := base) T
  have G_changed_modulo := ok_changed_modulo (P := P) (w := w) (base := base) T
  refine T.F_PrimeForm_changed.ok sc_PrimeForm_changed (fun vs H Q E h => ?_) (fun cdv A outer s H vs Q E hr h => ?_)
  · obtain ⟨a, t, p, l, a1, b1, c1, e1, rfl, _⟩ := h
    rfl
  · obtain ⟨a, t, p, l, a1, b1, c1, e1, rfl, fa, hp, hT, ba, bb, bc, be, hd, l1, l13, q⟩ := h
    refine ⟨_, (PSs.nox (pss_cons (ps_expr (pe_call G_require_prime_table (hr.mono (by decide)) (by rfl) T.g_require_prime_table T.F_require_prime_table.kp T.b_require_prime_table .nil pass0 (pa_cons (pe_sl (pv 0)) (pa_cons (pv 1) pa_nil))))
    (pss_one (ps_ret (pe_call G_changed_modulo hr (by rfl) T.g_changed_modulo T.F_changed_modulo.kp T.b_changed_modulo .nil pass0 (pa_cons (pv 0) (pa_cons (pv 1) pa_nil))))))), ?_⟩
    obtain ⟨p1, p2⟩ := pr_bd hp
    obtain ⟨dx, u, ha, hu⟩ := fa.slt
    refine ⟨_, rfl, a, T.C_PrimeForm, dx, T.a_own_prime, _, 1, .int p, rfl, ha, T.oc_PrimeForm.scl, T.sl_own_prime, rfl, _, rfl, p, t, a1, b1, c1, e1, rfl, by omega, hT, ba, bb, bc, be, hd, fun H1 s1 => ?_⟩
    exact ⟨_, rfl, _, rfl, a, t, p, l, a1, b1, c1, e1, rfl, fa.same s1, hp, hT.same s1, l1, l13, fun q1 H2 s2 f2 => q q1 H2 (s1.trans s2) f2⟩
end
end K52

set_option Elab.async false
set_option linter.all false
set_option maxRecDepth 100000
set_option maxHeartbeats 4000000
namespace K52
open PySem PySem.Spec PyProof.Rows L2 StX RZ MyR SlX OwnR OwnF EnumT
section
variable {P : Program} {w : World} {K : PySem.W.Frag} {mg : Str → Option Value} {base : Heap}
def spOfForm (CF C : Addr) : Sp := fun vs H Q _ => ∃ (a : Addr) (p : Int) (l : List Int), vs = [.ref C, .ref a, .int p] ∧ Fo CF H a l ∧ p ∈ PR ∧ 1 ≤ l.length ∧ l.length ≤ 13 ∧ ∀ q H', Same H H' → Fp C H' q p (md p l) → Q (.ref q) H'
theorem ok_PrimeForm_of_form (T : Facts K mg) : FnOk P w K mg base CX0 6 T.f_PrimeForm_of_form T.fd_PrimeForm_of_form ["cls", "form", "prime"] (spOfForm T.C_Form T.C_PrimeForm) := by
  have G_require_form := ok_require_form (P := P) (w := w) (base := base) T
  have G_require_prime := ok_require_prime (P := P) (w := w) (base := base) T
  have G_modulo := ok_modulo (P := P) (w := w) (base := base) T
  have G_Form_degree : FnOk P w K mg base CX0 1 T.f_Form_degree T.fd_Form_degree ["self"] (spDeg T.C_Form) := ok_Form_degree T
  have G_Form_entries : FnOk P w K mg base CX0 1 T.f_Form_entries T.fd_Form_entries ["self"] (spEnt T.C_Form) := ok_Form_entries T
  have G_PrimeForm_init := ok_PrimeForm_init (P := P) (w := w) (base := base) T
  refine T.F_PrimeForm_of_form.ok sc_PrimeForm_of_form (fun vs H Q E h => ?_) (fun cdv A outer s H vs Q E hr h => ?_)
  · obtain ⟨a, p, l, rfl, _⟩ := h
    rfl
  · obtain ⟨a, p, l, rfl, fa, hp, l1, l13, q⟩ := h
    obtain ⟨p1, p2⟩ := pr_bd hp
    refine ⟨_, (PSs.nox (pss_cons (ps_expr (pe_call G_require_form (hr.mono (by decide)) (by rfl) T.g_require_form T.F_require_form.kp T.b_require_form .nil pass0 (pa_cons (pv 1) pa_nil)))
    (pss_cons (ps_expr (pe_call G_require_prime (hr.mono (by decide)) (by rfl) T.g_require_prime T.F_require_prime.kp T.b_require_prime .nil pass0 (pa_cons (pv 2) pa_nil)))
    (pss_cons (ps_if (pt_cmpR op_gt (pe_prp (pv 1) T.oc_Form T.pr_Form_degree G_Form_degree T.b_Form_degree (hr.mono (by decide))) (pe_glob (v := .int 12) (by rfl) T.c_MOST_DEGREE.choose_spec ⟨_, rfl⟩) (nomark _))
      (pss_one ps_never)
      pss_nil)
    (pss_one (ps_ret (OwnC.pe_makeV (i := 0) T.mk_PrimeForm G_PrimeForm_init (hr.mono (by decide)) T.b_PrimeForm_init rfl (by first | exact Or.inl rfl | exact Or.inr (Or.inl rfl) | exact Or.inr (Or.inr rfl)) (pa_cons (pv 2) (pa_cons (pe_call G_modulo (hr.mono (by decide)) (by rfl) T.g_modulo T.F_modulo.kp T.b_modulo .nil pass0 (pa_cons (pv 2) (pa_cons (pe_prp (pv 1) T.oc_Form T.pr_Form_entries G_Form_entries T.b_Form_entries (hr.mono (by decide))) pa_nil))) pa_nil))))))))), ?_⟩
    refine ⟨_, rfl, a, l, rfl, fa, _, rfl, p, rfl, hp, _, rfl, prop_deg fa ⟨_, _, rfl, rfl, _, rfl, ?_⟩⟩
    rw [decide_eq_false (show ¬ (12 : Int) < (l.length : Int) - 1 by omega)]
    refine iteF ⟨rfl, _, rfl, _, rfl, _, rfl, prop_ent fa fun t ht => ⟨p, t, l, rfl, by omega, ht, by omega, fun q1 H1 s1 n1 h1 => fun x dx x1 x2 x3 => mkP x1 x2 x3 h1 hp (by rw [md_len]; omega) (by rw [md_len]; omega) (sho_md hp) fun H2 s2 f2 => ?_⟩⟩
    rw [md_md] at f2
    exact q x H2 (s1.trans s2) f2
def spPMul (C : Addr) : Sp := fun vs H Q _ => ∃ (a b : Addr) (p : Int) (f g : List Int), vs = [.ref a, .ref b] ∧ Fp C H a p f ∧ Fp C H b p g ∧ p ∈ PR ∧ Rw f ∧ Rw g ∧ f.length + g.length ≤ 14 ∧ ∀ q H', Same H H' → Fp C H' q p (md p (ml f g)) → Q (.ref q) H'
theorem ok_PrimeForm_mul (T : Facts K mg) : FnOk P w K mg base CX0 6 T.f_PrimeForm_mul T.fd_PrimeForm_mul ["self", "other"] (spPMul T.C_PrimeForm) := by
  have G_modulo := ok_modulo (P := P) (w := w) (base := base) T
  have G_product_in := ok_product_in (P := P) (w := w) (base := base) T
  have G_PrimeForm_init := ok_PrimeForm_init (P := P) (w := w) (base := base) T
  have G_PrimeForm_degree := ok_PrimeForm_degree (P := P) (w := w) (base := base) T
  refine T.F_PrimeForm_mul.ok sc_PrimeForm_mul (fun vs H Q E h => ?_) (fun cdv A outer s H vs Q E hr h => ?_)
  · obtain ⟨a, b, p, f, g, rfl, _⟩ := h
    rfl
  · obtain ⟨a, b, p, f, g, rfl, fa, fb, hp, rf, rg, hl, q⟩ := h
    obtain ⟨p1, p2⟩ := pr_bd hp
    obtain ⟨dx, u, ha, hu⟩ := fa.slt
    obtain ⟨dy, v, hb, hv⟩ := fb.slt
    have lf := List.length_pos_iff.mpr rf.ne
    have lg := List.length_pos_iff.mpr rg.ne
    refine ⟨_, (PSs.nox (pss_cons (ps_if (pt_not (pt_val (pe_callB (call_isiF T.C_PrimeForm) (by rfl) T.z_isinstance (by decide +kernel) (pa_cons (pv 1) (pa_cons (pe_glob (v := .ref T.C_PrimeForm) (by rfl) T.g_PrimeForm rfl) pa_nil)))))
      (pss_one ps_never)
      pss_nil)
    (pss_cons (ps_if (pt_cmpR op_ne (pe_sl (pv 1)) (pe_sl (pv 0)) (nomark _))
      (pss_one ps_never)
      pss_nil)
    (pss_cons (ps_if (pt_cmpR op_gt (pe_op op_add (pe_prp (pv 0) T.oc_PrimeForm T.pr_PrimeForm_degree G_PrimeForm_degree T.b_PrimeForm_degree (hr.mono (by decide))) (pe_prp (pv 1) T.oc_PrimeForm T.pr_PrimeForm_degree G_PrimeForm_degree T.b_PrimeForm_degree (hr.mono (by decide)))) (pe_glob (v := .int 12) (by rfl) T.c_MOST_DEGREE.choose_spec ⟨_, rfl⟩) (nomark _))
      (pss_one ps_never)
      pss_nil)
    (pss_one (ps_ret (pe_make T.mk_PrimeForm G_PrimeForm_init (hr.mono (by decide)) (by rfl) T.g_PrimeForm T.b_PrimeForm_init .nil pass0 (pa_cons (pe_sl (pv 0)) (pa_cons (pe_call G_modulo (hr.mono (by decide)) (by rfl) T.g_modulo T.F_modulo.kp T.b_modulo .nil pass0 (pa_cons (pe_sl (pv 0)) (pa_cons (pe_call G_product_in (hr.mono (by decide)) (by rfl) T.g_product_in T.F_product_in.kp T.b_product_in .nil pass0 (pa_cons (pe_sl (pv 0)) (pa_cons (pe_sl (pv 1)) pa_nil))) pa_nil))) pa_nil))))))))), ?_⟩
    refine ⟨_, rfl, .inr ⟨b, T.C_PrimeForm, dy, _, .ref T.C_PrimeForm, true, rfl, rfl, fun w r => r, hb, T.oc_PrimeForm.scl, T.oc_PrimeForm.sis, T.oc_PrimeForm.kself, true, rfl, iteF ?_⟩⟩
    refine ⟨_, rfl, b, T.C_PrimeForm, dy, T.a_own_prime, _, 1, .int p, rfl, hb, T.oc_PrimeForm.scl, T.sl_own_prime, rfl, _, rfl, a, T.C_PrimeForm, dx, T.a_own_prime, _, 1, .int p, rfl, ha, T.oc_PrimeForm.scl, T.sl_own_prime, rfl, rfl, false, by rw [decide_eq_true rfl]; rfl, iteF ?_⟩
    refine ⟨_, rfl, prop_pdeg fa ⟨_, rfl, prop_pdeg fb ⟨_, _, rfl, rfl, _, _, rfl, rfl, _, rfl, ?_⟩⟩⟩
    rw [decide_eq_false (show ¬ (12 : Int) < (f.length : Int) - 1 + ((g.length : Int) - 1) by omega)]
    refine iteF ?_
    refine ⟨_, rfl, a, T.C_PrimeForm, dx, T.a_own_prime, _, 1, .int p, rfl, ha, T.oc_PrimeForm.scl, T.sl_own_prime, rfl, _, rfl, a, T.C_PrimeForm, dx, T.a_own_prime, _, 1, .int p, rfl, ha, T.oc_PrimeForm.scl, T.sl_own_prime, rfl, _, rfl, a, T.C_PrimeForm, dx, T.a_PrimeForm_own_entries, _, 0, .ref u, rfl, ha, T.oc_PrimeForm.scl, T.sl_PrimeForm_own_entries, rfl, _, rfl, b, T.C_PrimeForm, dy, T.a_PrimeForm_own_entries, _, 0, .ref v, rfl, hb, T.oc_PrimeForm.scl, T.sl_PrimeForm_own_entries, rfl, u, v, f, g, rfl, hu, hv, rf.ne, rg.ne, rf.len, rg.len, rf.sm, rg.sm, fun q1 H2 s2 n2 h2 => ?_⟩
    have lL : (ml f g).length = f.length + g.length - 1 := ml_len f g
    refine ⟨p, q1, _, rfl, by omega, h2, by omega, fun q2 H3 s3 n3 h3 => fun x dx x1 x2 x3 => mkP x1 x2 x3 h3 hp (by rw [md_len]; omega) (by rw [md_len]; omega) (sho_md hp) fun H4 s4 f4 => ?_⟩
    rw [md_md] at f4
    exact q x H4 (s2.trans (s3.trans s4)) f4
def spSomePrime : Sp := fun vs H Q _ => ∃ (d : Addr), vs = [.ref d] ∧ Dc H d ∧ ∀ (p : Int) H', p ∈ PR → Sx d H H' → Dc H' d → Q (.int p) H'
theorem ok_law_some_prime (T : Facts K mg) : FnOk P w K mg base CX0 3 T.f_law_some_prime T.fd_law_some_prime ["_law_dice_here"] spSomePrime := by
  have G_law_pick : FnOk P w K mg base CX0 2 T.f_law_pick T.fd_law_pick ["_law_dice_here", "_law_items"] spPick2 := (ok_law_pick T).imp pick2
  refine T.F_law_some_prime.ok sc_law_some_prime (fun vs H Q E h => ?_) (fun cdv A outer s H vs Q E hr h => ?_)
  · obtain ⟨d, rfl, _⟩ := h
    rfl
  · obtain ⟨d, rfl, hd, q⟩ := h
    refine ⟨_, (PSs.nox (pss_one (ps_ret (pe_call G_law_pick hr (by rfl) T.g_law_pick T.F_law_pick.kp T.b_law_pick .nil pass0 (pa_cons (pv 0) (pa_cons (pe_lst (pa_cons pe_int (pa_cons pe_int (pa_cons pe_int (pa_cons pe_int (pa_cons pe_int (pa_cons pe_int (pa_cons pe_int (pa_cons pe_int (pa_cons pe_int (pa_cons pe_int (pa_cons pe_int (pa_cons pe_int (pa_cons pe_int (pa_cons pe_int (pa_cons pe_int (pa_cons pe_int (pa_cons pe_int (pa_cons pe_int (pa_cons pe_int (pa_cons pe_int (pa_cons pe_int (pa_cons pe_int pa_nil))))))))))))))))))))))) pa_nil)))))), ?_⟩
    refine ⟨_, rfl, by show 22 ≤ sizeLine; decide, fun B nB => gen_upd H B (.lst (((13 : Int) :: PR).map V.int)) nB fun H1 s1 f1 => ⟨d, B, _, rfl, hd.same s1, f1, hd.ne nB, by decide, by decide, fun v H2 hv s2 d2 => ?_⟩⟩
    obtain ⟨p, hp, rfl⟩ := List.mem_map.mp hv
    refine q p H2 ?_ ((Sx.of s1).trans s2) d2
    rcases List.mem_cons.mp hp with e | e
    · rw [e]; decide
    · exact e
def spPTable : Sp := fun vs H Q _ => ∃ (d : Addr) (p : Int), vs = [.ref d, .int p] ∧ Dc H d ∧ p ∈ PR ∧ ∀ t H' a b c e, Sx d H H' → Dc H' d → Tb H' t [a, b] [c, e] → a.natAbs ≤ 10 ^ 20 → b.natAbs ≤ 10 ^ 20 → c.natAbs ≤ 10 ^ 20 → e.natAbs ≤ 10 ^ 20 → (a * e - b * c) % p ≠ 0 → Q (.ref t) H'
theorem ok_law_prime_table (T : Facts K mg) : FnOk P w K mg base CX0 3 T.f_law_prime_table T.fd_law_prime_table ["_law_dice_here", "_law_prime"] spPTable := by
  have G_law_pick : FnOk P w K mg base CX0 2 T.f_law_pick T.fd_law_pick ["_law_dice_here", "_law_items"] spPick2 := (ok_law_pick T).imp pick2
  have G_law_near : FnOk P w K mg base CX0 2 T.f_law_near T.fd_law_near ["_law_dice_here", "_law_most"] spNearB := ok_law_nearB T
  have G_law_det := ok_law_det (P := P) (w := w) (base := base) T
  refine T.F_law_prime_table.ok sc_law_prime_table (fun vs H Q E h => ?_) (fun cdv A outer s H vs Q E hr h => ?_)
  · obtain ⟨d, p, rfl, _⟩ := h
    rfl
  · obtain ⟨d, p, rfl, hd, hp, q⟩ := h
    obtain ⟨p1, p2⟩ := pr_bd hp
    have z2 : 2 ≤ sizeLine := by decide
    have e20 : (10 : Int) ^ 20 = 100000000000000000000 := by decide
    have e20n : (10 : Nat) ^ 20 = 100000000000000000000 := by decide
    have sp : sm p := sm_le (n := 101) (show p.natAbs ≤ 101 by omega) (by decide)
    refine ⟨_, (PSs.nox (pss_cons (ps_set (i := 2) sc_law_prime_table.nd rfl (.inr rfl) (pe_call G_law_pick hr (by rfl) T.g_law_pick T.F_law_pick.kp T.b_law_pick .nil pass0 (pa_cons (pv 0) (pa_cons (pe_lst (pa_cons pe_int (pa_cons (pv 1) (pa_cons (pe_op op_mulW pe_int (pv 1)) (pa_cons (pe_op op_pow pe_int pe_int) pa_nil))))) pa_nil))))
    (pss_cons (ps_set (i := 3) sc_law_prime_table.nd rfl (.inl rfl) (pe_tupleOf (by rfl) T.z_tuple (pe_lc (own := [("_law_row", 4)]) (g := (gName 4)) (tt := tYes) (by rfl) sc_law_prime_table.nd (pi_range1 (by rfl) T.z_range (pa_cons pe_int pa_nil)) (blkOk_by (N := N_law_prime_table) (sc := defScope s_law_prime_table) (by decide +kernel)) (fun _ _ _ _ _ => (pg_name (i := 4) sc_law_prime_table.nd rfl (.inl rfl))) (fun _ _ _ _ _ => pts_nil) (fun _ _ _ _ _ => (pe_tup (pa_cons (pe_call G_law_near hr (by rfl) T.g_law_near T.F_law_near.kp T.b_law_near .nil pass0 (pa_cons (pv 0) (pa_cons (pv 2) pa_nil))) (pa_cons (pe_call G_law_near hr (by rfl) T.g_law_near T.F_law_near.kp T.b_law_near .nil pass0 (pa_cons (pv 0) (pa_cons (pv 2) pa_nil))) pa_nil)))))))
    (pss_one (ps_ret (pe_ifExp (pt_cmpR op_ne (pe_op op_mod (pe_callTy call_int1 (by rfl) T.z_int (by decide +kernel) (pa_cons (pe_call G_law_det (hr.mono (by decide)) (by rfl) T.g_law_det T.F_law_det.kp T.b_law_det .nil pass0 (pa_cons (pv 3) pa_nil)) pa_nil)) (pv 1)) pe_int (nomark _)) (pv 3) (pe_tup (pa_cons (pe_tup (pa_cons pe_int (pa_cons pe_int pa_nil))) (pa_cons (pe_tup (pa_cons pe_int (pa_cons pe_int pa_nil))) pa_nil))))))))), ?_⟩
    refine ⟨_, rfl, _, rfl, _, rfl, _, _, rfl, rfl, sm_mul (sm_le (n := 3) (by decide) (by decide)) sp, 10, 20, rfl, rfl, ⟨by decide, by decide, by decide⟩, by show 4 ≤ sizeLine; decide, fun B nB => gen_upd H B (.lst [.int 2, .int p, .int (3 * p), .int 100000000000000000000]) nB fun H0 s0 f0 => ⟨d, B, _, rfl, hd.same s0, f0, hd.ne nB, by simp, by simp, fun v H1 hv s1' d1 => ?_⟩⟩
    obtain ⟨m, rfl, hm0, hm1⟩ : ∃ M : Int, v = .int M ∧ 0 ≤ M ∧ M ≤ 100000000000000000000 := by
      simp only [List.mem_cons, List.not_mem_nil, or_false] at hv
      rcases hv with e | e | e | e <;> exact ⟨_, e, by omega, by omega⟩
    have s1 := (Sx.of s0).trans s1'
    refine ⟨2, rfl, by decide, by decide, fun D hD => lc_range (n := (2 : Int).toNat) (fun j H' => Sx d H1 H' ∧ Dc H' d ∧ ∃ (rs : List Addr) (ls : List (List Int)), H' D = some (.lst (rs.map V.ref)) ∧ rs.length = j ∧ ls.length = j ∧ (∀ i (h : i < ls.length) (h' : i < rs.length), H' rs[i] = some (tp ls[i])) ∧ ∀ l ∈ ls, l.length = 2 ∧ ∀ x ∈ l, x.natAbs ≤ 10 ^ 20) ⟨Sx.of (same_upd0 hD), d1.same (same_upd0 hD), [], [], upd_same, rfl, rfl, fun i h _ => absurd h (Nat.not_lt_zero i), fun l h => (nomatch h)⟩ (fun j H' hj hP => ?_) (fun H' hP => ?_)⟩
    · obtain ⟨sH, dH, rs, ls, hL, hl1, hl2, hr, hb⟩ := hP
      have nD : D ≠ d := d1.ne hD
      refine ⟨rfl, _, rfl, _, rfl, d, m, rfl, dH, hm0, hm1, fun u H2 u1 u2 s2 d2 => ⟨_, rfl, _, rfl, d, m, rfl, d2, hm0, hm1, fun v H3 v1 v2 s3 d3 => ⟨z2, fun p2 n2 => gen_upd H3 p2 (tp [u, v]) n2 fun H4 s4 f4 => ?_⟩⟩⟩
      have hL4 := s4 _ _ (s3 D _ nD (s2 D _ nD hL))
      have dD : ∀ a l, H4 a = some (tp l) → a ≠ D := fun a l e z => by
        rw [z, hL4] at e
        cases e
      have d4 := d3.same s4
      have hj2 : j < 2 := hj
      refine ⟨_, hL4, by rw [List.length_map, hl1]; exact small1000 (by omega), fun b o hb2 e => ?_, ?_, rs ++ [p2], ls ++ [[u, v]], by rw [upd_same, List.map_append]; rfl, by rw [List.length_append, hl1]; rfl, by rw [List.length_append, hl2]; rfl, fun i h h' => ?_, fun l hl => ?_⟩
      · rw [upd_ne (ne_of_none e hD)]
        exact s4 _ _ (s3 b o hb2 (s2 b o hb2 (sH b o hb2 e)))
      · obtain ⟨x, y, z, e⟩ := d4
        exact ⟨x, y, z, by rw [upd_ne (Ne.symm nD)]; exact e⟩
      · by_cases c : i < ls.length
        · have e1 : (rs ++ [p2])[i] = rs[i]'(by omega) := List.getElem_append_left _
          have e2 : (ls ++ [[u, v]])[i] = ls[i] := List.getElem_append_left _
          rw [e1, e2]
          have e3 := s3 _ _ (dc_ne d2 (s2 _ _ (dc_ne dH (hr i c (by omega))) (hr i c (by omega)))) (s2 _ _ (dc_ne dH (hr i c (by omega))) (hr i c (by omega)))
          rw [upd_ne (dD _ _ (s4 _ _ e3))]
          exact s4 _ _ e3
        · have ei : i = ls.length := by rw [List.length_append] at h; simp at h; omega
          subst ei
          have e1 : (rs ++ [p2])[ls.length] = p2 := by rw [List.getElem_append_right (by omega)]; simp [hl1, hl2]
          have e2 : (ls ++ [[u, v]])[ls.length] = [u, v] := by rw [List.getElem_append_right (by omega)]; simp
          rw [e1, e2, upd_ne (dD _ _ f4)]
          exact f4
      · rcases List.mem_append.mp hl with e | e
        · exact hb l e
        · rw [List.mem_singleton.mp e]
          refine ⟨rfl, fun x hx => ?_⟩
          simp only [List.mem_cons, List.not_mem_nil, or_false] at hx
          rcases hx with e | e <;> rw [e, e20n] <;> omega
    · obtain ⟨sH, dH, rs, ls, hL, hl1, hl2, hr, hb⟩ := hP
      match rs, hl1, ls, hl2, hL, hr, hb with
      | [r0, r1], _, [l0, l1], _, hL, hr, hb =>
        have k0 : H' r0 = some (tp l0) := hr 0 (by simp) (by simp)
        have k1 : H' r1 = some (tp l1) := hr 1 (by simp) (by simp)
        obtain ⟨b0, c0⟩ := hb l0 (by simp)
        obtain ⟨b1, c1⟩ := hb l1 (by simp)
        match l0, b0, l1, b1, k0, k1, c0, c1 with
        | [a, b], _, [c, e], _, k0, k1, c0, c1 =>
          have ba := c0 a (by simp)
          have bb := c0 b (by simp)
          have bc := c1 c (by simp)
          have be := c1 e (by simp)
          refine .inl ⟨D, _, rfl, SqL.of hL, fun p9 np => ?_⟩
          refine gen_upd H' p9 (.tup [.ref r0, .ref r1]) np fun H2 s2 f2 => ?_
          have k0' := s2 _ _ k0
          have k1' := s2 _ _ k1
          have hT : Tb H2 p9 [a, b] [c, e] := ⟨r0, r1, f2, k0', k1'⟩
          refine ⟨_, rfl, p9, a, b, c, e, rfl, hT, ba, bb, bc, be, .inl ⟨_, rfl, _, rfl, _, _, rfl, rfl, by omega, rfl, _, rfl, ?_⟩⟩
          have sZ : Sx d H H2 := s1.trans (sH.trans (Sx.of s2))
          by_cases z : (a * e - b * c) % p = 0
          · rw [decide_eq_true (show V.int ((a * e - b * c) % p) = V.int 0 by rw [z])]
            refine iteF ⟨z2, fun q0 m0 => gen_upd H2 q0 (tp [1, 1]) m0 fun H3 s3 f3 => ⟨z2, fun q1 m1 => gen_upd H3 q1 (tp [0, 1]) m1 fun H4 s4 f4 => ⟨z2, fun q2 m2 => gen_upd H4 q2 (.tup [.ref q0, .ref q1]) m2 fun H5 s5 f5 => ?_⟩⟩⟩
            have s25 := (s3.trans s4).trans s5
            refine q q2 H5 1 1 0 1 (sZ.trans (Sx.of s25)) ((dH.same s2).same s25) ⟨q0, q1, f5, s5 _ _ (s4 _ _ f3), s5 _ _ f4⟩ (by decide) (by decide) (by decide) (by decide) ?_
            show (1 : Int) % p ≠ 0
            rw [Int.emod_eq_of_lt (by decide) (by omega)]
            decide
          · rw [decide_eq_false fun y => z (V.int.inj y)]
            exact iteT ⟨_, rfl, q p9 H2 a b c e sZ (dH.same s2) hT ba bb bc be z⟩
end
end K52

set_option Elab.async false
set_option linter.all false
set_option maxRecDepth 100000
set_option maxHeartbeats 4000000
namespace K52
open PySem PySem.Spec PyProof.Rows L2 StX RZ MyR SlX OwnR OwnF EnumT
theorem eq_prime {X : Cx} {C a b : Addr} {H : Hp} {p : Int} {xs ys : List Int} {Q : VK} (c : OC X.K C) (fa : Fp C H a p xs) (fb : Fp C H b p ys) (q : Q (.bl (decide (xs = ys))) H) : rEqO X C (spPEq C) E0 (.ref a) (.ref b) H Q := by
  obtain ⟨dx, t, ha, _⟩ := fa.slt
  obtain ⟨dy, u, hb, _⟩ := fb.slt
  exact ⟨a, dx, _, .ref C, rfl, ha, .inst hb, notFirst_self, a, b, p, xs, ys, rfl, fa, fb, q⟩
theorem ne_prime {X : Cx} {C a b : Addr} {H : Hp} {p : Int} {xs ys : List Int} {Q : VK} (c : OC X.K C) (fa : Fp C H a p xs) (fb : Fp C H b p ys) (q : Q (.bl (!decide (xs = ys))) H) : rNeO X C (spPEq C) E0 (.ref a) (.ref b) H Q := by
  obtain ⟨dx, t, ha, _⟩ := fa.slt
  obtain ⟨dy, u, hb, _⟩ := fb.slt
  exact ⟨a, dx, _, .ref C, rfl, ha, .inst hb, notFirst_self, a, b, p, xs, ys, rfl, fa, fb, _, rfl, q⟩
theorem Fp.sx {C a d : Addr} {H H' : Hp} {p : Int} {ns : List Int} (h : Fp C H a p ns) (hd : Dc H d) (s : Sx d H H') : Fp C H' a p ns := by
  obtain ⟨dx, t, h1, h2, h3⟩ := h
  obtain ⟨x, y, z, e⟩ := hd
  refine ⟨dx, t, s _ _ (fun q => ?_) h1, s _ _ (fun q => ?_) h2, s _ _ (fun q => ?_) h3⟩
  · rw [q, e] at h1
    cases h1
  · rw [q, e] at h2
    cases h2
  · rw [q, e] at h3
    cases h3
theorem Fp.sl {C a : Addr} {H : Hp} {p : Int} {ns : List Int} (h : Fp C H a p ns) : ∃ dx vs, Slt H a C dx vs := by
  obtain ⟨dx, t, h1, _⟩ := h.slt
  exact ⟨dx, _, h1⟩
/-- a method read off a form over a prime field -/
theorem mp {C a : Addr} {H : Hp} {p : Int} {ns : List Int} {R : Prop} (h : Fp C H a p ns) (r : R) : ∃ a' dx vs, V.ref a = .ref a' ∧ Slt H a' C dx vs ∧ R := by
  obtain ⟨dx, t, h1, _⟩ := h.slt
  exact ⟨a, dx, _, rfl, h1, r⟩
theorem laid_p {C a b : Addr} {H : Hp} {p : Int} {f g : List Int} {n m t : Nat} {Q : VK} {E : XK} {ti : Int} (et : ti = (t : Int)) (fa : Fp C H a p (md p f)) (fb : Fp C H b p (md p g)) (hp : p ∈ PR) (lf : f.length = n + 1) (lg : g.length = m + 1) (hn : n ≤ 7) (hm : m ≤ 7) (h1 : t ≤ n) (h2 : t ≤ m) (h3 : n + m ≤ 12)
    (q : ∀ q H', Same H H' → Fp C H' q p (md p (L t f g)) → Q (.ref q) H') : spPLaid C [.ref a, .ref b, .int ti] H Q E := by
  subst et
  refine ⟨a, b, p, _, _, t, rfl, fa, fb, hp, ldOk_of ((bd_md hp lf).mono ?_) ((bd_md hp lg).mono ?_) hn hm h1 h2, by rw [md_len, md_len]; omega, fun q1 H1 s1 f1 => q q1 H1 s1 ?_⟩
  · exact Nat.le_trans (Nat.mul_le_mul (Nat.succ_le_succ hn) (Nat.le_refl 101)) (by decide)
  · exact Nat.le_trans (Nat.mul_le_mul (Nat.succ_le_succ hm) (Nat.le_refl 101)) (by decide)
  · rw [md_L (by omega) (by omega)] at f1
    exact f1
structure T20 (a b c e : Int) : Prop where
  h1 : a.natAbs ≤ 10 ^ 20
  h2 : b.natAbs ≤ 10 ^ 20
  h3 : c.natAbs ≤ 10 ^ 20
  h4 : e.natAbs ≤ 10 ^ 20
def Nb (x : Int) (n : Nat) : Prop := x.natAbs ≤ n
structure RS (C : Addr) (H : Hp) (d t1 t2 t3 a1 a2 a3 : Addr) (p : Int) (f g h : List Int) (t : Nat) : Prop where
  k1 : H t1 = some (tp f)
  k2 : H t2 = some (tp g)
  k3 : H t3 = some (tp h)
  f1 : Fp C H a1 p (md p f)
  f2 : Fp C H a2 p (md p g)
  f3 : Fp C H a3 p (md p (L t f g))
  dd : Dc H d
theorem RS.same {C : Addr} {H H' : Hp} {d t1 t2 t3 a1 a2 a3 : Addr} {p : Int} {f g h : List Int} {t : Nat} (R : RS C H d t1 t2 t3 a1 a2 a3 p f g h t) (s : Same H H') : RS C H' d t1 t2 t3 a1 a2 a3 p f g h t :=
  ⟨s _ _ R.k1, s _ _ R.k2, s _ _ R.k3, R.f1.same s, R.f2.same s, R.f3.same s, R.dd.same s⟩
theorem RS.sx {C : Addr} {H H' : Hp} {d t1 t2 t3 a1 a2 a3 : Addr} {p : Int} {f g h : List Int} {t : Nat} (R : RS C H d t1 t2 t3 a1 a2 a3 p f g h t) (s : Sx d H H') (dd : Dc H' d) : RS C H' d t1 t2 t3 a1 a2 a3 p f g h t :=
  ⟨s _ _ (dc_ne R.dd R.k1) R.k1, s _ _ (dc_ne R.dd R.k2) R.k2, s _ _ (dc_ne R.dd R.k3) R.k3, R.f1.sx R.dd s, R.f2.sx R.dd s, R.f3.sx R.dd s, dd⟩
theorem sgn_if {t : Nat} {σ : L2.St} {H : Hp} {Q : VK} {k : Nat} (e : σ[k]? = some (some (.int (t : Int)))) (h : Q (.int (sgn t)) H) :
    tIf (tTest (tOp rEq (tOp (rI (fun x j => 0 < j) fun i j => V.int (i % j)) (tVar k) (tC (V.int 2))) (tC (V.int 0)))) (tC (V.int 1)) (tUn (rU fun i => V.int (-i)) (tC (V.int 1))) σ H Q := by
  refine ⟨_, e, _, _, rfl, rfl, (by decide : (0 : Int) < 2), rfl, _, rfl, ?_⟩
  dsimp only []
  unfold sgn at h
  by_cases z : t % 2 = 0
  · rw [if_pos z] at h
    rw [decide_eq_true (show V.int ((t : Int) % 2) = V.int 0 by congr 1; omega)]
    exact iteT h
  · rw [if_neg z] at h
    rw [decide_eq_false (show ¬ V.int ((t : Int) % 2) = V.int 0 from fun y => z (by have := V.int.inj y; omega))]
    exact iteF ⟨_, rfl, h⟩
theorem st_norm {S : TS} {D : Ends} {σ : L2.St} (σ' : L2.St) {H : Hp} (e : σ = σ') (h : S D σ' H) : S D σ H := e ▸ h
section
variable {P : Program} {w : World} {K : PySem.W.Frag} {mg : Str → Option Value} {base : Heap}
theorem ok_law_right (T : Facts K mg) : FnOk P w K mg base CX0 9 T.f_law_right T.fd_law_right ["_law_dice_here"] spRight := by
  have G_law_roll : FnOk P w K mg base CX0 1 T.f_law_roll T.fd_law_roll ["_law_dice_here", "_law_total"] spRoll2 := (ok_law_roll T).imp roll2
  have G_law_some_prime := ok_law_some_prime (P := P) (w := w) (base := base) T
  have G_law_prime_table := ok_law_prime_table (P := P) (w := w) (base := base) T
  have G_law_form := ok_law_form (P := P) (w := w) (base := base) T
  have G_law_laid := ok_law_laid (P := P) (w := w) (base := base) T
  have G_law_plus := ok_law_plus (P := P) (w := w) (base := base) T
  have G_law_scaled := ok_law_scaled (P := P) (w := w) (base := base) T
  have G_law_raised := ok_law_raised (P := P) (w := w) (base := base) T
  have G_law_det := ok_law_det (P := P) (w := w) (base := base) T
  have G_laid := ok_laid (P := P) (w := w) (base := base) T
  have G_Form_init := ok_Form_init (P := P) (w := w) (base := base) T
  have G_PrimeForm_init := ok_PrimeForm_init (P := P) (w := w) (base := base) T
  have G_PrimeForm_eq := ok_PrimeForm_eq (P := P) (w := w) (base := base) T
  have G_PrimeForm_entries := ok_PrimeForm_entries (P := P) (w := w) (base := base) T
  have G_PrimeForm_degree := ok_PrimeForm_degree (P := P) (w := w) (base := base) T
  have G_PrimeForm_changed := ok_PrimeForm_changed (P := P) (w := w) (base := base) T
  have G_PrimeForm_laid := ok_PrimeForm_laid (P := P) (w := w) (base := base) T
  have G_PrimeForm_of_form := ok_PrimeForm_of_form (P := P) (w := w) (base := base) T
  refine T.F_law_right.ok sc_law_right (fun vs H Q E h => ?_) (fun cdv A outer s H vs Q E hr h => ?_)
  · obtain ⟨d, rfl, _⟩ := h
    rfl
  · obtain ⟨d, rfl, hd, q⟩ := h
    have lg : ∀ i : Nat, i < 100 → (i : Int).natAbs.log2 < 9000 := fun i hi => Nat.lt_trans (PySem.Flt.log2_lt_of (k := 10) (by decide) (by show i < 2 ^ 10; omega)) (by decide)
    refine ⟨_, (PSs.nox (pss_cons (ps_par3 (i := 1) (j := 2) (l := 3) (by rfl) sc_law_right.nd rfl rfl rfl (by decide) (by decide) (by decide) rfl rfl rfl (pa_cons (pe_call G_law_some_prime (hr.mono (by decide)) (by rfl) T.g_law_some_prime T.F_law_some_prime.kp T.b_law_some_prime .nil pass0 (pa_cons (pv 0) pa_nil)) (pa_cons (pe_call G_law_roll (hr.mono (by decide)) (by rfl) T.g_law_roll T.F_law_roll.kp T.b_law_roll .nil pass0 (pa_cons (pv 0) (pa_cons pe_int pa_nil))) (pa_cons (pe_call G_law_roll (hr.mono (by decide)) (by rfl) T.g_law_roll T.F_law_roll.kp T.b_law_roll .nil pass0 (pa_cons (pv 0) (pa_cons pe_int pa_nil))) pa_nil))) (by rfl))
    (pss_cons (ps_par3 (i := 4) (j := 5) (l := 6) (by rfl) sc_law_right.nd rfl rfl rfl (by decide) (by decide) (by decide) rfl rfl rfl (pa_cons (pe_call G_law_form (hr.mono (by decide)) (by rfl) T.g_law_form T.F_law_form.kp T.b_law_form .nil pass0 (pa_cons (pv 0) (pa_cons (pv 2) pa_nil))) (pa_cons (pe_call G_law_form (hr.mono (by decide)) (by rfl) T.g_law_form T.F_law_form.kp T.b_law_form .nil pass0 (pa_cons (pv 0) (pa_cons (pv 3) pa_nil))) (pa_cons (pe_call G_law_form (hr.mono (by decide)) (by rfl) T.g_law_form T.F_law_form.kp T.b_law_form .nil pass0 (pa_cons (pv 0) (pa_cons (pv 3) pa_nil))) pa_nil))) (by rfl))
    (pss_cons (ps_set (i := 7) sc_law_right.nd rfl (.inl rfl) (pe_call G_law_roll (hr.mono (by decide)) (by rfl) T.g_law_roll T.F_law_roll.kp T.b_law_roll .nil pass0 (pa_cons (pv 0) (pa_cons (pe_op op_add (pe_callB (call_min2 (by rfl)) (by rfl) T.z_min (by decide +kernel) (pa_cons (pv 2) (pa_cons (pv 3) pa_nil))) pe_int) pa_nil))))
    (pss_cons (ps_par (i := 8) (j := 9) (by rfl) sc_law_right.nd rfl rfl (by decide) rfl rfl (pa_cons (pe_make T.mk_PrimeForm G_PrimeForm_init (hr.mono (by decide)) (by rfl) T.g_PrimeForm T.b_PrimeForm_init .nil pass0 (pa_cons (pv 1) (pa_cons (pv 4) pa_nil))) (pa_cons (pe_make T.mk_PrimeForm G_PrimeForm_init (hr.mono (by decide)) (by rfl) T.g_PrimeForm T.b_PrimeForm_init .nil pass0 (pa_cons (pv 1) (pa_cons (pv 5) pa_nil))) pa_nil)) (by rfl))
    (pss_cons (ps_set (i := 10) sc_law_right.nd rfl (.inl rfl) (pe_mSl (pv 8) T.oc_PrimeForm T.mt_PrimeForm_laid T.F_PrimeForm_laid.kp G_PrimeForm_laid T.b_PrimeForm_laid (hr.mono (by decide)) (pa_cons (pv 9) (pa_cons (pv 7) pa_nil))))
    (pss_cons (ps_if (pw_or (pt_cmpR (op_neF T.oc_PrimeForm T.mt_PrimeForm_eq G_PrimeForm_eq T.b_PrimeForm_eq (hr.mono (by decide))) (pv 10) (pe_make T.mk_PrimeForm G_PrimeForm_init (hr.mono (by decide)) (by rfl) T.g_PrimeForm T.b_PrimeForm_init .nil pass0 (pa_cons (pv 1) (pa_cons (pe_call G_law_laid (hr.mono (by decide)) (by rfl) T.g_law_laid T.F_law_laid.kp T.b_law_laid .nil pass0 (pa_cons (pv 4) (pa_cons (pv 5) (pa_cons (pv 7) pa_nil)))) pa_nil))) (nomark _)) (pw_or1 (pt_cmpR op_ne (pe_prp (pv 10) T.oc_PrimeForm T.pr_PrimeForm_degree G_PrimeForm_degree T.b_PrimeForm_degree (hr.mono (by decide))) (pe_op op_sub (pe_op op_add (pv 2) (pv 3)) (pe_op op_mulW pe_int (pv 7))) (nomark _)))).pt
      (pss_one (ps_ret pe_bl))
      pss_nil)
    (pss_cons (ps_if (pt_cmpR (op_neF T.oc_PrimeForm T.mt_PrimeForm_eq G_PrimeForm_eq T.b_PrimeForm_eq (hr.mono (by decide))) (pv 10) (OwnC.pe_cmF (pe_glob (v := .ref T.C_PrimeForm) (by rfl) T.g_PrimeForm rfl) T.cm_PrimeForm_of_form G_PrimeForm_of_form T.b_PrimeForm_of_form (hr.mono (by decide)) (pa_cons (pe_call G_laid hr (by rfl) T.g_laid T.F_laid.kp T.b_laid .nil pass0 (pa_cons (pe_make T.mk_Form G_Form_init (hr.mono (by decide)) (by rfl) T.g_Form T.b_Form_init .nil pass0 (pa_cons (pv 4) pa_nil)) (pa_cons (pe_make T.mk_Form G_Form_init (hr.mono (by decide)) (by rfl) T.g_Form T.b_Form_init .nil pass0 (pa_cons (pv 5) pa_nil)) (pa_cons (pv 7) pa_nil)))) (pa_cons (pv 1) pa_nil))) (nomark _))
      (pss_one (ps_ret pe_bl))
      pss_nil)
    (pss_cons (ps_set (i := 11) sc_law_right.nd rfl (.inl rfl) (pe_ifExp (pt_cmpR op_eq (pe_op op_mod (pv 7) pe_int) pe_int (nomark _)) pe_int (pe_un un_neg pe_int)))
    (pss_cons (ps_if (pt_cmpR (op_neF T.oc_PrimeForm T.mt_PrimeForm_eq G_PrimeForm_eq T.b_PrimeForm_eq (hr.mono (by decide))) (pe_mSl (pv 9) T.oc_PrimeForm T.mt_PrimeForm_laid T.F_PrimeForm_laid.kp G_PrimeForm_laid T.b_PrimeForm_laid (hr.mono (by decide)) (pa_cons (pv 8) (pa_cons (pv 7) pa_nil))) (pe_make T.mk_PrimeForm G_PrimeForm_init (hr.mono (by decide)) (by rfl) T.g_PrimeForm T.b_PrimeForm_init .nil pass0 (pa_cons (pv 1) (pa_cons (pe_call G_law_scaled (hr.mono (by decide)) (by rfl) T.g_law_scaled T.F_law_scaled.kp T.b_law_scaled .nil pass0 (pa_cons (pe_prp (pv 10) T.oc_PrimeForm T.pr_PrimeForm_entries G_PrimeForm_entries T.b_PrimeForm_entries (hr.mono (by decide))) (pa_cons (pv 11) pa_nil))) pa_nil))) (nomark _))
      (pss_one (ps_ret pe_bl))
      pss_nil)
    (pss_cons (ps_set (i := 12) sc_law_right.nd rfl (.inl rfl) (pe_call G_law_prime_table (hr.mono (by decide)) (by rfl) T.g_law_prime_table T.F_law_prime_table.kp T.b_law_prime_table .nil pass0 (pa_cons (pv 0) (pa_cons (pv 1) pa_nil))))
    (pss_cons (ps_set (i := 13) sc_law_right.nd rfl (.inl rfl) (pe_call G_law_raised (hr.mono (by decide)) (by rfl) T.g_law_raised T.F_law_raised.kp T.b_law_raised .nil pass0 (pa_cons (pe_op op_mod (pe_callTy call_int1 (by rfl) T.z_int (by decide +kernel) (pa_cons (pe_call G_law_det (hr.mono (by decide)) (by rfl) T.g_law_det T.F_law_det.kp T.b_law_det .nil pass0 (pa_cons (pv 12) pa_nil)) pa_nil)) (pv 1)) (pa_cons (pv 7) pa_nil))))
    (pss_cons (ps_if (pt_cmpR (op_neF T.oc_PrimeForm T.mt_PrimeForm_eq G_PrimeForm_eq T.b_PrimeForm_eq (hr.mono (by decide))) (pe_mSl (pe_mSl (pv 8) T.oc_PrimeForm T.mt_PrimeForm_changed T.F_PrimeForm_changed.kp G_PrimeForm_changed T.b_PrimeForm_changed (hr.mono (by decide)) (pa_cons (pv 12) pa_nil)) T.oc_PrimeForm T.mt_PrimeForm_laid T.F_PrimeForm_laid.kp G_PrimeForm_laid T.b_PrimeForm_laid (hr.mono (by decide)) (pa_cons (pe_mSl (pv 9) T.oc_PrimeForm T.mt_PrimeForm_changed T.F_PrimeForm_changed.kp G_PrimeForm_changed T.b_PrimeForm_changed (hr.mono (by decide)) (pa_cons (pv 12) pa_nil)) (pa_cons (pv 7) pa_nil))) (pe_make T.mk_PrimeForm G_PrimeForm_init (hr.mono (by decide)) (by rfl) T.g_PrimeForm T.b_PrimeForm_init .nil pass0 (pa_cons (pv 1) (pa_cons (pe_call G_law_scaled (hr.mono (by decide)) (by rfl) T.g_law_scaled T.F_law_scaled.kp T.b_law_scaled .nil pass0 (pa_cons (pe_prp (pe_mSl (pv 10) T.oc_PrimeForm T.mt_PrimeForm_changed T.F_PrimeForm_changed.kp G_PrimeForm_changed T.b_PrimeForm_changed (hr.mono (by decide)) (pa_cons (pv 12) pa_nil)) T.oc_PrimeForm T.pr_PrimeForm_entries G_PrimeForm_entries T.b_PrimeForm_entries (hr.mono (by decide))) (pa_cons (pv 13) pa_nil))) pa_nil))) (nomark _))
      (pss_one (ps_ret pe_bl))
      pss_nil)
    (pss_cons (ps_set (i := 14) sc_law_right.nd rfl (.inl rfl) (pe_mSl (pv 8) T.oc_PrimeForm T.mt_PrimeForm_laid T.F_PrimeForm_laid.kp G_PrimeForm_laid T.b_PrimeForm_laid (hr.mono (by decide)) (pa_cons (pe_make T.mk_PrimeForm G_PrimeForm_init (hr.mono (by decide)) (by rfl) T.g_PrimeForm T.b_PrimeForm_init .nil pass0 (pa_cons (pv 1) (pa_cons (pe_call G_law_plus (hr.mono (by decide)) (by rfl) T.g_law_plus T.F_law_plus.kp T.b_law_plus .nil pass0 (pa_cons (pv 5) (pa_cons (pv 6) pa_nil))) pa_nil))) (pa_cons (pv 7) pa_nil))))
    (pss_one (ps_ret (pe_cmpR (op_eqF T.mt_PrimeForm_eq G_PrimeForm_eq T.b_PrimeForm_eq (hr.mono (by decide))) (pv 14) (pe_make T.mk_PrimeForm G_PrimeForm_init (hr.mono (by decide)) (by rfl) T.g_PrimeForm T.b_PrimeForm_init .nil pass0 (pa_cons (pv 1) (pa_cons (pe_call G_law_plus (hr.mono (by decide)) (by rfl) T.g_law_plus T.F_law_plus.kp T.b_law_plus .nil pass0 (pa_cons (pe_prp (pv 10) T.oc_PrimeForm T.pr_PrimeForm_entries G_PrimeForm_entries T.b_PrimeForm_entries (hr.mono (by decide))) (pa_cons (pe_prp (pe_mSl (pv 8) T.oc_PrimeForm T.mt_PrimeForm_laid T.F_PrimeForm_laid.kp G_PrimeForm_laid T.b_PrimeForm_laid (hr.mono (by decide)) (pa_cons (pe_make T.mk_PrimeForm G_PrimeForm_init (hr.mono (by decide)) (by rfl) T.g_PrimeForm T.b_PrimeForm_init .nil pass0 (pa_cons (pv 1) (pa_cons (pv 6) pa_nil))) (pa_cons (pv 7) pa_nil))) T.oc_PrimeForm T.pr_PrimeForm_entries G_PrimeForm_entries T.b_PrimeForm_entries (hr.mono (by decide))) pa_nil))) pa_nil))) (nomark _)))))))))))))))))), ?_⟩
    refine ⟨_, rfl, d, rfl, hd, fun p H1 hp s1 d1 => ⟨_, rfl, d, 8, rfl, d1, by decide, lg 8 (by decide), fun n H2 hn s2 d2 => ⟨_, rfl, d, 6, rfl, d2, by decide, lg 6 (by decide), fun m H3 hm s3 d3 => ?_⟩⟩⟩
    refine ⟨_, _, _, rfl, _, rfl, _, rfl, d, n, rfl, d3, by omega, fun t1 H4 f s4 d4 k1 bf => ⟨_, rfl, _, rfl, d, m, rfl, d4, by omega, fun t2 H5 g s5 d5 k2 bg => ⟨_, rfl, _, rfl, d, m, rfl, d5, by omega, fun t3 H6 h s6 d6 k3 bh => ?_⟩⟩⟩
    have bf : Bd f n (2 ^ 47) := bf.mono (by decide)
    have bg : Bd g m (2 ^ 47) := bg.mono (by decide)
    have bh : Bd h m (2 ^ 47) := bh.mono (by decide)
    have lf := bf.len
    have lg' := bg.len
    have lh := bh.len
    have K1 : H6 t1 = some (tp f) := (s5.trans s6) _ _ (dc_ne d4 k1) k1
    have K2 : H6 t2 = some (tp g) := s6 _ _ (dc_ne d5 k2) k2
    have K3 := k3
    obtain ⟨p1, p2⟩ := pr_bd hp
    have sI : Sx d H H6 := ((((s1.trans s2).trans s3).trans s4).trans s5).trans s6
    clear k1 k2 k3 s1 s2 s3 s4 s5 s6 d1 d2 d3 d4 d5
    refine ⟨_, _, _, rfl, ?_⟩
    refine ⟨_, rfl, _, rfl, _, rfl, n, m, rfl, _, _, rfl, rfl, ?_⟩
    obtain ⟨mn, hmn, hm0, hm1, hm2⟩ : ∃ mn : Nat, (if (m : Int) < (n : Int) then (m : Int) else (n : Int)) + 1 = ((mn + 1 : Nat) : Int) ∧ mn ≤ n ∧ mn ≤ m ∧ mn ≤ 5 := by
      by_cases c : (m : Int) < (n : Int)
      · exact ⟨m, by rw [if_pos c]; rfl, by omega, by omega, by omega⟩
      · exact ⟨n, by rw [if_neg c]; rfl, by omega, by omega, by omega⟩
    refine ⟨d, _, rfl, d6, ?_, ?_, fun t H7 ht s7 d7 => ?_⟩
    · rw [hmn]; omega
    · rw [hmn]; exact lg _ (by omega)
    rw [hmn] at ht
    have t1' : t ≤ n := by omega
    have t2' : t ≤ m := by omega
    have t5 : t ≤ 5 := by omega
    have K1 := s7 _ _ (dc_ne d6 K1) K1
    have K2 := s7 _ _ (dc_ne d6 K2) K2
    have K3 := s7 _ _ (dc_ne d6 K3) K3
    have sI := sI.trans s7
    have tf : Tr f := bf.tr (by omega) (by decide)
    have tg : Tr g := bg.tr (by omega) (by decide)
    have th : Tr h := bh.tr (by omega) (by decide)
    refine ⟨_, rfl, _, rfl, fun a1 dx x1 x2 x3 => mkP x1 x2 x3 K1 hp tf.pos (by omega) tf.sho fun H8 s8 F1 => ?_⟩
    refine ⟨_, rfl, _, rfl, fun a2 dx x1 x2 x3 => mkP x1 x2 x3 (s8 _ _ K2) hp tg.pos (by omega) tg.sho fun H9 s9 F2 => ?_⟩
    have F1 := F1.same s9
    have sI := sI.trans (Sx.of (s8.trans s9))
    have K1 := (s8.trans s9) _ _ K1
    have K2 := (s8.trans s9) _ _ K2
    have K3 := (s8.trans s9) _ _ K3
    have d9 := d7.same (s8.trans s9)
    clear s8 s9 s7 d6 d7
    refine ⟨_, _, rfl, ?_⟩
    refine ⟨_, rfl, mp F1 ⟨_, rfl, _, rfl, ?_⟩⟩
    dsimp only [tNil]
    refine laid_p rfl F1 F2 hp lf lg' (by omega) (by omega) t1' t2' (by omega) fun a3 H10 s10 F3 => ?_
    have F1 := F1.same s10
    have F2 := F2.same s10
    have sI := sI.trans (Sx.of s10)
    have K1 := s10 _ _ K1
    have K2 := s10 _ _ K2
    have K3 := s10 _ _ K3
    have d10 := d9.same s10
    clear s10 d9
    have R : RS T.C_PrimeForm H10 d t1 t2 t3 a1 a2 a3 p f g h t := ⟨K1, K2, K3, F1, F2, F3, d10⟩
    clear K1 K2 K3 F1 F2 F3 d10
    have b100 : ∀ {f : List Int} {i : Nat}, Bd f i (2 ^ 47) → Bd f i (2 ^ 100) := fun h => h.mono (by decide)
    have ld := ldOk_of (b100 bf) (b100 bg) (by omega) (by omega) t1' t2'
    have ldr := ldOk_of (b100 bg) (b100 bf) (by omega) (by omega) t2' t1'
    have bL := (L_bd t bf bg (by omega) (by omega) t1' t2').mono (show _ ≤ 2 ^ 136 from Nat.le_trans (Nat.mul_le_mul (Nat.pow_le_pow_right (by decide) (show 7 * t ≤ 42 by omega)) (Nat.le_refl _)) (by decide))
    have tL : Tr (L t f g) := bL.tr (by omega) (by decide)
    have lL := bL.len
    -- the laying as told
    refine ⟨_, rfl, _, rfl, _, rfl, _, rfl, _, rfl, t1, t2, f, g, t, rfl, R.k1, R.k2, ld, fun u1 H11 s11 k11 => ?_⟩
    refine fun x dx x1 x2 x3 => mkP x1 x2 x3 k11 hp tL.pos (by omega) tL.sho fun H12 s12 f12 => ne_prime T.oc_PrimeForm ((R.same s11).same s12).f3 f12 ?_
    rw [decide_eq_true rfl]
    have R := R.same (s11.trans s12)
    have sI := sI.trans (Sx.of (s11.trans s12))
    clear s11 s12 k11 f12
    refine ⟨_, rfl, iteF ⟨_, rfl, prop_pdeg R.f3 ⟨_, rfl, _, rfl, _, _, rfl, rfl, _, rfl, _, _, rfl, rfl, sm_mul (sm_le (n := 2) (by decide) (by decide)) (sm_le (n := 5) (show ((t : Nat) : Int).natAbs ≤ 5 by omega) (by decide)), _, _, rfl, rfl, rfl, false, ?_, iteF ?_⟩⟩⟩
    · rw [md_len, lL, decide_eq_true (show V.int (((n + m - 2 * t + 1 : Nat) : Int) - 1) = V.int ((n : Int) + (m : Int) - 2 * (t : Int)) by congr 1; omega)]
      rfl
    -- the laying of the whole forms
    refine st_norm [some (.ref d), some (.int p), some (.int (n : Int)), some (.int (m : Int)), some (.ref t1), some (.ref t2), some (.ref t3), some (.int (t : Int)), some (.ref a1), some (.ref a2), some (.ref a3), none, none, none, none] rfl ?_
    refine ⟨_, rfl, rfl, _, rfl, fun b1 dx x1 x2 x3 => mkF x1 x2 x3 R.k1 tf.pos (by omega) tf.sho fun H13 s13 g13 => ⟨_, rfl, fun b2 dx x1 x2 x3 => mkF x1 x2 x3 (R.same s13).k2 tg.pos (by omega) tg.sho fun H14 s14 g14 => ?_⟩⟩
    refine ⟨_, rfl, b1, b2, f, g, t, rfl, g13.same s14, g14, ld, by omega, fun b3 H15 s15 g15 => ?_⟩
    refine ⟨_, rfl, b3, p, _, rfl, g15, hp, tL.pos, by omega, fun b4 H16 s16 g16 => ?_⟩
    have s1316 := (s13.trans s14).trans (s15.trans s16)
    have R := R.same s1316
    have sI := sI.trans (Sx.of s1316)
    clear s1316 s13 s14 s15 s16 g13 g14 g15
    refine ne_prime T.oc_PrimeForm R.f3 g16 ?_
    rw [decide_eq_true rfl]
    refine ⟨_, rfl, iteF ?_⟩
    clear g16
    -- exchanged
    refine sgn_if (t := t) rfl ?_
    refine ⟨_, rfl, mp R.f2 ⟨_, rfl, _, rfl, ?_⟩⟩
    dsimp only [tNil]
    refine laid_p rfl R.f2 R.f1 hp lg' lf (by omega) (by omega) t2' t1' (by omega) fun c1 H17 s17 g17 => ?_
    refine ⟨_, rfl, _, rfl, prop_pent (R.same s17).f3 fun u2 k2 => ?_⟩
    have sL : ∀ z ∈ md p (L t f g), z.natAbs ≤ 101 := fun z hz => by
      obtain ⟨z1, z2⟩ := md_nonneg (p := p) (by omega) z hz
      omega
    refine ⟨_, rfl, u2, _, sgn t, rfl, k2, by rw [md_len]; omega, fun z hz => sm_le (sL z hz) (by decide), sm_le (n := 1) (by rw [sgn_abs]; exact Nat.le_refl 1) (by decide), fun u3 H18 s18 _ k3 => ?_⟩
    refine fun x dx x1 x2 x3 => mkP x1 x2 x3 k3 hp (by rw [List.length_map, md_len]; omega) (by rw [List.length_map, md_len]; omega) (fun z hz => ?_) fun H19 s19 f19 => ne_prime T.oc_PrimeForm (g17.same (s18.trans s19)) f19 ?_
    · obtain ⟨y, hy, rfl⟩ := List.mem_map.mp hz
      have := sL y hy
      refine Nat.lt_of_le_of_lt (show (sgn t * y).natAbs ≤ 101 by rw [Int.natAbs_mul, sgn_abs, Nat.one_mul]; exact this) (by decide)
    rw [md_map, ← L_swap_list ld.lf ld.lg, decide_eq_true rfl]
    refine ⟨_, rfl, iteF ?_⟩
    have s1719 := s17.trans (s18.trans s19)
    have R := R.same s1719
    have sI := sI.trans (Sx.of s1719)
    clear s1719 s17 s18 s19 f19 g17 k2 k3
    -- changed
    refine st_norm [some (.ref d), some (.int p), some (.int (n : Int)), some (.int (m : Int)), some (.ref t1), some (.ref t2), some (.ref t3), some (.int (t : Int)), some (.ref a1), some (.ref a2), some (.ref a3), some (.int (sgn t)), none, none, none] rfl ?_
    refine ⟨_, rfl, _, rfl, d, p, rfl, R.dd, hp, fun p5 H20 a b c e s20 dd20 tb ha hb hc he hz => ?_⟩
    have R := R.sx s20 dd20
    have sI := sI.trans s20
    clear s20 dd20
    have hz0 := Int.emod_nonneg (a * e - b * c) (show p ≠ 0 by omega)
    have hz1 := Int.emod_lt_of_pos (a * e - b * c) (show 0 < p by omega)
    have hdp : ∀ j, j ≤ 5 → (((a * e - b * c) % p) ^ j).natAbs ≤ 101 ^ 5 := fun j hj => by
      rw [Int.natAbs_pow]
      exact Nat.le_trans (Nat.pow_le_pow_left (show ((a * e - b * c) % p).natAbs ≤ 101 by omega) j) (Nat.pow_le_pow_right (by decide) hj)
    have h20 : T20 a b c e := ⟨ha, hb, hc, he⟩
    clear ha hb hc he
    refine ⟨_, rfl, p5, a, b, c, e, rfl, tb, h20.1, h20.2, h20.3, h20.4, .inl ⟨_, rfl, _, rfl, _, _, rfl, rfl, (by omega), ?_⟩⟩
    refine ⟨_, rfl, (a * e - b * c) % p, t, rfl, fun j hj => sm_le (hdp j (by omega)) (by decide), sm_le (n := 101) (show ((a * e - b * c) % p).natAbs ≤ 101 by omega) (by decide), by omega, ?_⟩
    generalize hfac : ((a * e - b * c) % p) ^ t = fac
    have bfac : Nb fac (101 ^ 5) := by show fac.natAbs ≤ 101 ^ 5; rw [← hfac]; exact hdp t t5
    refine ⟨_, rfl, mp R.f1 ⟨_, rfl, a1, p5, p, f, a, b, c, e, rfl, R.f1, hp, tb, h20.1, h20.2, h20.3, h20.4, hz, by omega, by omega, fun q1 H21 s21 g21 => ?_⟩⟩
    have R := R.same s21
    have tb := tb.same s21
    refine mp g21 ⟨_, rfl, mp R.f2 ⟨_, rfl, a2, p5, p, g, a, b, c, e, rfl, R.f2, hp, tb, h20.1, h20.2, h20.3, h20.4, hz, by omega, by omega, fun q2 H22 s22 g22 => ?_⟩⟩
    have R := R.same s22
    have tb := tb.same s22
    have nf : f ≠ [] := ne_of2 (by omega)
    have ng : g ≠ [] := ne_of2 (by omega)
    have nL : L t f g ≠ [] := ne_of2 (by omega)
    have mne : ∀ {l : List Int}, l ≠ [] → md p l ≠ [] := fun h e => h (List.map_eq_nil_iff.mp e)
    have c1 : (changed (md p [a, b]) (md p [c, e]) (md p f)).length = n + 1 := by rw [changed_len rfl rfl (mne nf), md_len, lf]
    have c2 : (changed (md p [a, b]) (md p [c, e]) (md p g)).length = m + 1 := by rw [changed_len rfl rfl (mne ng), md_len, lg']
    refine ⟨_, rfl, ?_⟩
    dsimp only [tNil]
    refine laid_p rfl (g21.same s22) g22 hp c1 c2 (by omega) (by omega) t1' t2' (by omega) fun q3 H23 s23 g23 => ?_
    have R := R.same s23
    have tb := tb.same s23
    refine ⟨_, rfl, _, rfl, mp R.f3 ⟨_, rfl, a3, p5, p, L t f g, a, b, c, e, rfl, R.f3, hp, tb, h20.1, h20.2, h20.3, h20.4, hz, by omega, by omega, fun q4 H24 s24 g24 => prop_pent g24 fun u4 k4 => ?_⟩⟩
    have R := R.same s24
    generalize hch : changed (md p [a, b]) (md p [c, e]) (md p (L t f g)) = ch at g24 k4
    have lch : ch.length = n + m - 2 * t + 1 := by rw [← hch, changed_len rfl rfl (mne nL), md_len, lL]
    have sC : ∀ z ∈ md p ch, z.natAbs ≤ 101 := fun z hz => by
      obtain ⟨z1, z2⟩ := md_nonneg (p := p) (by omega) z hz
      omega
    refine ⟨_, rfl, u4, _, fac, rfl, k4, by rw [md_len]; omega, fun z hz => sm_le (sC z hz) (by decide), sm_le bfac (by decide), fun u5 H25 s25 _ k5 => ?_⟩
    refine fun x dx x1 x2 x3 => mkP x1 x2 x3 k5 hp (by rw [List.length_map, md_len]; omega) (by rw [List.length_map, md_len]; omega) (fun z hz => ?_) fun H26 s26 f26 => ne_prime T.oc_PrimeForm (g23.same (s24.trans (s25.trans s26))) f26 ?_
    · obtain ⟨y, hy, rfl⟩ := List.mem_map.mp hz
      have := sC y hy
      refine Nat.lt_of_le_of_lt (show (fac * y).natAbs ≤ 101 ^ 5 * 101 by rw [Int.natAbs_mul]; exact Nat.mul_le_mul bfac this) (by decide)
    have eL := (md_L (p := p) (show t + 1 ≤ (changed (md p [a, b]) (md p [c, e]) (md p f)).length by rw [c1]; omega) (show t + 1 ≤ (changed (md p [a, b]) (md p [c, e]) (md p g)).length by rw [c2]; omega)).symm.trans (L_ch_md (p := p) (a := a) (b := b) (c := c) (e := e) ld.lf ld.lg)
    rw [hch, hfac] at eL
    rw [decide_eq_true eL]
    refine ⟨_, rfl, iteF ?_⟩
    have R := R.same (s25.trans s26)
    have sI := sI.trans (Sx.of ((s21.trans s22).trans ((s23.trans s24).trans (s25.trans s26))))
    clear s21 s22 s23 s24 s25 s26 g21 g22 g23 g24 k4 k5 f26 tb
    -- sums
    refine st_norm [some (.ref d), some (.int p), some (.int (n : Int)), some (.int (m : Int)), some (.ref t1), some (.ref t2), some (.ref t3), some (.int (t : Int)), some (.ref a1), some (.ref a2), some (.ref a3), some (.int (sgn t)), some (.ref p5), some (.int fac), none] rfl ?_
    have bS := bd_zs bg (show Bd h m (2 ^ 47) from bh)
    have tS : Tr (zs 1 g h) := bS.tr (by omega) (by decide)
    have lS := bS.len
    refine ⟨_, rfl, mp R.f1 ⟨_, rfl, _, rfl, _, rfl, t2, t3, g, h, rfl, R.k2, R.k3, by omega, by omega, fun u6 H27 s27 _ k6 => ?_⟩⟩
    refine fun x dx x1 x2 x3 => mkP x1 x2 x3 k6 hp tS.pos (by omega) tS.sho fun H28 s28 f28 => ⟨_, rfl, ?_⟩
    dsimp only [tNil]
    refine laid_p rfl (R.f1.same (s27.trans s28)) f28 hp lf lS (by omega) (by omega) t1' t2' (by omega) fun a4 H29 s29 g29 => ?_
    have R := R.same ((s27.trans s28).trans s29)
    have sI := sI.trans (Sx.of ((s27.trans s28).trans s29))
    refine ⟨_, rfl, _, rfl, _, rfl, prop_pent R.f3 fun u7 k7 => ⟨_, rfl, mp R.f1 ⟨_, rfl, _, rfl, fun x dx x1 x2 x3 => mkP x1 x2 x3 R.k3 hp th.pos (by omega) th.sho fun H30 s30 f30 => ⟨_, rfl, ?_⟩⟩⟩⟩
    dsimp only [tNil]
    refine laid_p rfl (R.f1.same s30) f30 hp lf lh (by omega) (by omega) t1' t2' (by omega) fun a5 H31 s31 g31 => prop_pent g31 fun u8 k8 => ?_
    have lLh : (L t f h).length = n + m - 2 * t + 1 := by rw [L_len t f h (by omega) (by omega)]; omega
    have b2 := (bd_zs (bd_md hp lL) (bd_md hp lLh)).mono (show _ ≤ 2 ^ 20 from Nat.le_trans (Nat.add_le_add (Nat.mul_le_mul (show n + m - 2 * t + 1 ≤ 20 by omega) (Nat.le_refl 101)) (Nat.mul_le_mul (show n + m - 2 * t + 1 ≤ 20 by omega) (Nat.le_refl 101))) (by decide))
    have tr2 := b2.tr (by omega) (by decide)
    have l2 := b2.len
    refine ⟨u7, u8, _, _, rfl, (s30.trans s31) _ _ k7, k8, by rw [md_len, md_len, lL, lLh], by rw [md_len]; omega, fun u9 H32 s32 _ k9 => ?_⟩
    refine fun x dx x1 x2 x3 => mkP x1 x2 x3 k9 hp tr2.pos (by omega) tr2.sho fun H33 s33 f33 => eq_prime T.oc_PrimeForm (g29.same ((s30.trans s31).trans (s32.trans s33))) f33 ?_
    rw [md_plus p (show (L t f g).length = (L t f h).length by rw [lL, lLh]), L_zsr_list 1 (show g.length = h.length by rw [lg', lh]) ld.lf ld.lg, decide_eq_true rfl]
    exact q _ (sI.trans (Sx.of ((s30.trans s31).trans (s32.trans s33)))) (R.dd.same ((s30.trans s31).trans (s32.trans s33)))
end
end K52

set_option Elab.async false
set_option linter.all false
set_option maxRecDepth 100000
set_option maxHeartbeats 4000000
namespace K52
open PySem PySem.Spec PyProof.Rows L2 StX RZ MyR SlX OwnR OwnF EnumT
def g13 : List Int := List.replicate 13 1
theorem g13_ok {t : Nat} (h : t ≤ 12) : LdOk t g13 g13 := by
  have k : ∀ i, i < 13 → ∀ j, j < 13 → nm (dd i j g13) ≤ 2 ^ 150 := by decide +kernel
  exact ⟨by show t + 1 ≤ 13; omega, by show t + 1 ≤ 13; omega, by decide, by decide, fun i j hij => k i (by omega) j (by omega), fun i j hij => k i (by omega) j (by omega)⟩
section
variable {P : Program} {w : World} {K : PySem.W.Frag} {mg : Str → Option Value} {base : Heap}
theorem ok_law (T : Facts K mg) : FnOk P w K mg base CX0 10 T.f_law T.fd_law ["_law_script"] (spLaw K) := by
  have G_law_dice : FnOk P w K mg base CX0 1 T.f_law_dice T.fd_law_dice ["_law_script", "_law_spot"] (spDice K) := ok_law_dice T
  have G_law_right := ok_law_right (P := P) (w := w) (base := base) T
  have G_Form_init := ok_Form_init (P := P) (w := w) (base := base) T
  have G_PrimeForm_init := ok_PrimeForm_init (P := P) (w := w) (base := base) T
  have G_PrimeForm_eq := ok_PrimeForm_eq (P := P) (w := w) (base := base) T
  have G_PrimeForm_mul := ok_PrimeForm_mul (P := P) (w := w) (base := base) T
  have G_PrimeForm_entries := ok_PrimeForm_entries (P := P) (w := w) (base := base) T
  have G_PrimeForm_degree := ok_PrimeForm_degree (P := P) (w := w) (base := base) T
  have G_PrimeForm_is_zero := ok_PrimeForm_is_zero (P := P) (w := w) (base := base) T
  have G_PrimeForm_laid := ok_PrimeForm_laid (P := P) (w := w) (base := base) T
  have G_PrimeForm_of_form := ok_PrimeForm_of_form (P := P) (w := w) (base := base) T
  refine T.F_law.ok sc_law (fun vs H Q E h => ?_) (fun cdv A outer s H vs Q E hr h => ?_)
  · obtain ⟨a, ns, rfl, _⟩ := h
    rfl
  · obtain ⟨a, ns, rfl, hS, hlen, q⟩ := h
    refine ⟨_, (PSs.nox (pss_cons (ps_for PassesOwn.never (by rfl) (pi_range1 (by rfl) T.z_range (pa_cons (pe_callB (call_max2 (by rfl)) (by rfl) T.z_max (by decide +kernel) (pa_cons pe_int (pa_cons (pe_callB (call_min2 (by rfl)) (by rfl) T.z_min (by decide +kernel) (pa_cons pe_int (pa_cons (pe_callB call_len_seq (by rfl) T.z_len (by decide +kernel) (pa_cons (pv 0) pa_nil)) pa_nil))) pa_nil))) pa_nil)) (pg_name (i := 1) sc_law.nd rfl (.inl rfl))
      (pss_cons (ps_set (i := 2) sc_law.nd rfl (.inl rfl) (pe_call G_law_dice (hr.mono (by decide)) (by rfl) T.g_law_dice T.F_law_dice.kp T.b_law_dice .nil pass0 (pa_cons (pv 0) (pa_cons (pv 1) pa_nil))))
      (pss_one (ps_if (pw_or (pt_not (pt_val (pe_call G_law_right hr (by rfl) T.g_law_right T.F_law_right.kp T.b_law_right .nil pass0 (pa_cons (pv 2) pa_nil)))) (pw_or1 (pt_not (pt_val (pe_call G_law_right hr (by rfl) T.g_law_right T.F_law_right.kp T.b_law_right .nil pass0 (pa_cons (pv 2) pa_nil)))))).pt
        (pss_one (ps_ret pe_bl))
        pss_nil))))
    (pss_cons (ps_set (i := 3) sc_law.nd rfl (.inl rfl) (OwnC.pe_cmF (pe_glob (v := .ref T.C_PrimeForm) (by rfl) T.g_PrimeForm rfl) T.cm_PrimeForm_of_form G_PrimeForm_of_form T.b_PrimeForm_of_form (hr.mono (by decide)) (pa_cons (pe_make T.mk_Form G_Form_init (hr.mono (by decide)) (by rfl) T.g_Form T.b_Form_init .nil pass0 (pa_cons (pe_tup (pa_cons pe_int (pa_cons pe_int (pa_cons (pe_un un_neg pe_int) (pa_cons pe_int pa_nil))))) pa_nil)) (pa_cons pe_int pa_nil))))
    (pss_cons (ps_set (i := 4) sc_law.nd rfl (.inl rfl) (pe_mSl (pv 3) T.oc_PrimeForm T.mt_PrimeForm_laid T.F_PrimeForm_laid.kp G_PrimeForm_laid T.b_PrimeForm_laid (hr.mono (by decide)) (pa_cons (pv 3) (pa_cons pe_int pa_nil))))
    (pss_cons (ps_if (pw_or (pt_cmpR (op_neD (hu64 hr)) (pe_prp (pv 4) T.oc_PrimeForm T.pr_PrimeForm_entries G_PrimeForm_entries T.b_PrimeForm_entries (hr.mono (by decide))) (pe_tup (pa_cons pe_int (pa_cons pe_int (pa_cons pe_int pa_nil)))) (nomark _)) (pw_or (pt_cmpR op_isnot_bl (pe_prp (pe_mSl (pv 3) T.oc_PrimeForm T.mt_PrimeForm_laid T.F_PrimeForm_laid.kp G_PrimeForm_laid T.b_PrimeForm_laid (hr.mono (by decide)) (pa_cons (pv 3) (pa_cons pe_int pa_nil))) T.oc_PrimeForm T.pr_PrimeForm_is_zero G_PrimeForm_is_zero T.b_PrimeForm_is_zero (hr.mono (by decide))) pe_bl (nomark _)) (pw_or1 (pt_cmpR (op_neF T.oc_PrimeForm T.mt_PrimeForm_eq G_PrimeForm_eq T.b_PrimeForm_eq (hr.mono (by decide))) (pe_mSl (pv 3) T.oc_PrimeForm T.mt_PrimeForm_laid T.F_PrimeForm_laid.kp G_PrimeForm_laid T.b_PrimeForm_laid (hr.mono (by decide)) (pa_cons (pv 3) (pa_cons pe_int pa_nil))) (pe_op (op_mulO T.oc_PrimeForm T.mt_PrimeForm_mul G_PrimeForm_mul T.b_PrimeForm_mul (hr.mono (by decide))) (pv 3) (pv 3)) (nomark _))))).pt
      (pss_one (ps_ret pe_bl))
      pss_nil)
    (pss_cons (ps_set (i := 5) sc_law.nd rfl (.inl rfl) (pe_make T.mk_PrimeForm G_PrimeForm_init (hr.mono (by decide)) (by rfl) T.g_PrimeForm T.b_PrimeForm_init .nil pass0 (pa_cons pe_int (pa_cons (pe_op op_repT (pe_tup (pa_cons pe_int pa_nil)) pe_int) pa_nil))))
    (pss_one (ps_ret (pe_and (pe_cmpR op_eq (pe_prp (pe_mSl (pv 5) T.oc_PrimeForm T.mt_PrimeForm_laid T.F_PrimeForm_laid.kp G_PrimeForm_laid T.b_PrimeForm_laid (hr.mono (by decide)) (pa_cons (pv 5) (pa_cons pe_int pa_nil))) T.oc_PrimeForm T.pr_PrimeForm_degree G_PrimeForm_degree T.b_PrimeForm_degree (hr.mono (by decide))) pe_int (nomark _)) (pe_one (pe_cmpR op_eq (pe_prp (pe_mSl (pv 5) T.oc_PrimeForm T.mt_PrimeForm_laid T.F_PrimeForm_laid.kp G_PrimeForm_laid T.b_PrimeForm_laid (hr.mono (by decide)) (pa_cons (pv 5) (pa_cons pe_int pa_nil))) T.oc_PrimeForm T.pr_PrimeForm_degree G_PrimeForm_degree T.b_PrimeForm_degree (hr.mono (by decide))) pe_int (nomark _)))))))))))), ?_⟩
    refine ⟨.ref a, rfl, a, _, rfl, .inl hS, 4, _, rfl, 1, _, rfl, _, rfl, ?_⟩
    rw [List.length_map]
    obtain ⟨n, hn, hn0⟩ : ∃ n : Int, (if (if ((ns.length : Nat) : Int) < 4 then ((ns.length : Nat) : Int) else 4) > 1 then (if ((ns.length : Nat) : Int) < 4 then ((ns.length : Nat) : Int) else 4) else 1) = n ∧ 0 ≤ n ∧ n ≤ 4 := ⟨_, rfl, by split <;> split <;> omega, by split <;> split <;> omega⟩
    rw [hn]
    refine ⟨by omega, by omega, for_range (n := n.toNat) (fun i σ H' => ∃ y1 y2, σ = [some (.ref a), y1, y2, none, none, none] ∧ SqL K H' a (ns.map V.int)) ⟨none, none, rfl, hS⟩ (fun i σ H1 hi hP => ?_) (fun σ H1 hP => ?_)⟩
    · obtain ⟨y1, y2, rfl, h1⟩ := hP
      refine ⟨.ref a, rfl, _, rfl, a, ns, i, ?_, h1, fun d x y z nd => ?_⟩
      · show [V.ref a, V.int (0 + (i : Int))] ++ [] = _
        rw [Int.zero_add]
        rfl
      have d1 : Dc (upd H1 d (dice x y z)) d := ⟨x, y, z, upd_same⟩
      refine ⟨_, rfl, d, rfl, d1, fun H2 s2 d2 => ⟨true, rfl, iteF ⟨_, rfl, d, rfl, d2, fun H3 s3 d3 => ⟨true, rfl, iteF ?_⟩⟩⟩⟩
      exact ⟨_, _, rfl, script_Sx (s2.trans s3) nd h1⟩
    · obtain ⟨y1, y2, rfl, h1⟩ := hP
      have z3 : 3 ≤ sizeLine := by decide
      have z4 : 4 ≤ sizeLine := by decide
      have z1 : 1 ≤ sizeLine := by decide
      have p17 : (17 : Int) ∈ PR := by decide
      have p101 : (101 : Int) ∈ PR := by decide
      have bc : Bd [1, 0, -3, 1] 3 5 := ⟨rfl, by decide⟩
      refine ⟨rfl, _, rfl, z4, fun p2 m2 => gen_upd H1 p2 (tp [1, 0, -3, 1]) m2 fun H4 s4 k4 => fun a2 dx x1 x2 x3 => mkB x1 x2 x3 k4 bc (by decide) (by decide) fun H5 s5 f2 => ?_⟩
      refine ⟨a2, 17, _, rfl, f2, p17, by decide, by decide, fun a3 H6 s6 F3 => ?_⟩
      have d3 := (bd_md p17 (l := [1, 0, -3, 1]) (n := 3) rfl)
      have b17 : Bd (md 17 [1, 0, -3, 1]) 3 (2 ^ 100) := d3.mono (by decide)
      refine ⟨_, rfl, mp F3 ⟨_, rfl, ?_⟩⟩
      dsimp only [tCons, tC, tNil]
      refine laid_p (t := 2) (n := 3) (m := 3) rfl F3 F3 p17 rfl rfl (by decide) (by decide) (by decide) (by decide) (by decide) fun a4 H7 s7 F4 => ?_
      refine ⟨_, rfl, prop_pent F4 fun u1 k1 => ⟨z3, fun p3 m3 => gen_upd H7 p3 (tp [13, 4, 13]) m3 fun H8 s8 k8 => ne_ints (SqT.of (s8 _ _ k1)) (SqT.of k8) ?_⟩⟩
      rw [show md 17 (L 2 [1, 0, -3, 1] [1, 0, -3, 1]) = [13, 4, 13] by decide +kernel, decide_eq_true rfl]
      have F3 := F3.same (s7.trans s8)
      refine ⟨_, rfl, iteF ⟨_, rfl, mp F3 ⟨_, rfl, ?_⟩⟩⟩
      dsimp only [tCons, tC, tNil]
      refine laid_p (t := 1) (n := 3) (m := 3) rfl F3 F3 p17 rfl rfl (by decide) (by decide) (by decide) (by decide) (by decide) fun a5 H9 s9 F5 => prop_pzero F5 ?_
      rw [show (md 17 (L 1 [1, 0, -3, 1] [1, 0, -3, 1])).any (· != 0) = false by decide +kernel]
      have F3 := F3.same s9
      refine ⟨_, _, rfl, rfl, false, rfl, iteF ⟨_, rfl, mp F3 ⟨_, rfl, ?_⟩⟩⟩
      dsimp only [tCons, tC, tNil]
      refine laid_p (t := 0) (n := 3) (m := 3) rfl F3 F3 p17 rfl rfl (by decide) (by decide) (by decide) (by decide) (by decide) fun a6 H10 s10 F6 => ?_
      have F3 := F3.same s10
      obtain ⟨dx, v3, hv3, _⟩ := F3.slt
      have r17 : Rw (md 17 [1, 0, -3, 1]) := rw_md p17 (by simp) (by decide)
      refine ⟨_, rfl, _, rfl, a3, dx, _, a3, dx, _, rfl, rfl, hv3, hv3, a3, a3, 17, _, _, rfl, F3, F3, p17, r17, r17, by decide, fun a7 H11 s11 F7 => ne_prime T.oc_PrimeForm (F6.same s11) F7 ?_⟩
      rw [show md 17 (L 0 [1, 0, -3, 1] [1, 0, -3, 1]) = md 17 (ml (md 17 [1, 0, -3, 1]) (md 17 [1, 0, -3, 1])) by decide +kernel, decide_eq_true rfl]
      refine ⟨false, rfl, iteF ?_⟩
      refine ⟨z1, fun p4 m4 => gen_upd H11 p4 (tp [1]) m4 fun H12 s12 k12 => ⟨p4, 13, _, rfl, rfl, SqT.of k12, by decide, by decide, by decide, by decide, fun p5 m5 => gen_upd H12 p5 (tp g13) m5 fun H13 s13 k13 => ?_⟩⟩
      refine fun a8 dx x1 x2 x3 => mkP x1 x2 x3 k13 p101 (by decide) (by decide) (fun z hz => by rw [List.eq_of_mem_replicate hz]; show (1 : Int).natAbs < _; decide) fun H14 s14 F8 => ?_
      have e13 : md 101 g13 = g13 := by decide +kernel
      rw [e13] at F8
      refine ⟨_, rfl, mp F8 ⟨_, rfl, a8, a8, 101, g13, g13, 12, rfl, F8, F8, p101, g13_ok (by decide), by decide, fun a9 H15 s15 F9 => prop_pdeg F9 ⟨rfl, ?_⟩⟩⟩
      rw [md_len, L_len 12 g13 g13 (by decide) (by decide), decide_eq_true (by decide)]
      have F8 := F8.same s15
      refine ⟨true, rfl, iteT ⟨_, rfl, mp F8 ⟨_, rfl, a8, a8, 101, g13, g13, 6, rfl, F8, F8, p101, g13_ok (by decide), by decide, fun a10 H16 s16 F10 => prop_pdeg F10 ⟨rfl, ?_⟩⟩⟩⟩
      rw [md_len, L_len 6 g13 g13 (by decide) (by decide), decide_eq_true (by decide)]
      exact q H16
end
end K52

set_option Elab.async false
set_option linter.all false
set_option maxRecDepth 100000
set_option maxHeartbeats 0
namespace K52
open PySem PySem.Spec PyProof.Rows L2
theorem facts {P : Program} {w : World} {K : PySem.W.Frag} {h : Heap} {mg : Str → Option Value} {f : Addr} (X : K.In h) (G : h.Ns mainGlobals mg) (hfa : mg ("law" : Str) = some (.ref f)) (c : HookG.SaysG faL fnL exL K) :
    ∃ fd : FuncData, (∀ (s : Shared) (v : Value), BindsTo s fd ⟨[v], []⟩ [("_law_script", v)]) ∧ ∀ base : Heap, K.In base → base.Ns mainGlobals mg → FnOk P w K mg base CX0 10 f fd ["_law_script"] (spLaw K) := by
  obtain ⟨T⟩ := facts_of X G c
  have e := hfa.symm.trans T.g_law
  cases e
  have b := FunD.bindsA (ps := ["_law_script"]) T.F_law fun _ _ _ _ _ _ us hl => match us, hl with | [_], _ => rfl
  exact ⟨T.fd_law, fun s v => b s [v] rfl, fun base _ _ => ok_law T⟩
end K52
open PySem PySem.W PySem.Calls PyProof.Rows
theorem PySem.Challenge.cw_sourceforms_k52_whole_layings_over_prime_holds : PySem.Challenge.rw_sourceforms_k52_whole_layings_over_prime.Holds := by
  w_on; o_law
  refine HandSHeadRun.head_any (r := OpenLaw.row PySem.Challenge.rw_sourceforms_k52_whole_layings_over_prime) (q := view (OpenLaw.row PySem.Challenge.rw_sourceforms_k52_whole_layings_over_prime).prog [80]) (H := K52.hk) (ob := K52.ob) (M := 9000) (loose := K52.loose) (d := HandSHeadRun.topDef (OpenLaw.row PySem.Challenge.rw_sourceforms_k52_whole_layings_over_prime).prog 80) (kwd := []) K52.ob_eq
    (by kernel_rfl) (fun s => by kernel_rfl) K52.run (by kernel_rfl) (by kernel_rfl) (by kernel_rfl) (by rfl) (by first | assumption | decide +kernel) (by decide +kernel) ⟨rfl, rfl, rfl, rfl, rfl, by decide +kernel⟩ ?hw ?hc
  case hw => w_witness2
  case hc =>
    refine L2.walk_ofE (l := PySem.Challenge.rw_sourceforms_k52_whole_layings_over_prime) (n := 63) (k := 10) (x := "_law_script") (CX := L2.CX0) rfl (by decide) (by kernel_rfl) ⟨rfl, by decide, by decide⟩ ?F (fun _ _ _ _ z => z)
    intro w mg fa h Y G hmg0
    obtain ⟨K, KX, c⟩ := Y
    have hmg : mg ("law" : PySem.Str) = some (.ref fa) := by
      have e : (HandSHeadRun.topDef (OpenLaw.row PySem.Challenge.rw_sourceforms_k52_whole_layings_over_prime).prog 80).name = ("law" : PySem.Str) := by kernel_rfl
      rw [← e]
      exact hmg0
    obtain ⟨fd, hb, hF⟩ := K52.facts (P := (PySem.Challenge.rw_sourceforms_k52_whole_layings_over_prime).prog) (w := w) KX G hmg c
    exact ⟨K, fd, K52.spLaw K, KX, hb, fun H a ns hl _ hS => ⟨a, ns, rfl, hS, hl, fun _ => rfl⟩, hF⟩
