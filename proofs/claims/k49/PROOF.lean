import PyProof.Rows.All
import Wide.All
import OpenK.AllK
import Wide.FinOn
import KE.KTupSum
import HandS.ForMost
import HandS.Wide
import HandS.Style
import HandS.Gcd
import KE.KMathG
import Flt.RightSqrt
import HandS.SlotsOwn
import HandS.IsInst
import KE.KOpsOwn
import KE.KCallOwn
import KE.KOwnIter
import OpenK.KMeth
import OpenK.KOps
import PyProof.InstNe
import HandS.OwnIter
import HandS.IterNext
import HandS.Defaults
import HandS.HeadHook2
import HandS.HeadNt
import PyProof.EqKinds
import PyProof.EqAt
import HandS.Codes
import HandS.Words
import HandS.Slots
import HandS.ClsMeth
import PyProof.ListIndex
import HandS.Iter
import KE.GoesMore
import HandS.List
import HandS.Conv
import HandS.Star
import HandS.TupAny
import HandS.Zip
import HandS.Evl
import HandS.WordsExc
import HandS.Head0
import HandS.Head1
import HandS.Head2
import HandS.Head3
import HandS.HeadEnd
import HandS.HeadHook1
import HandS.HeadHook3
import HandS.HeadHook4
import HandS.FStr
import KE.KEqSeq
import HandS.TupMul
import PySem.Challenge.RW_sourceforms_k49_whole_forms_over_primes

set_option Elab.async false
set_option linter.all false
set_option maxRecDepth 100000
set_option maxHeartbeats 4000000
/-! rules of mine: a tuple turned round by a slice, the sum of a tuple -/
namespace MyR
open PySem PySem.Spec PyProof.Rows L2 HT
section
variable {prog : Program} {w : World} {A : Around} {E : Value → Shared → Prop} {s : Shared}
end
section
variable {X : Cx}
/-- // by any int other than 0 -/
def CDivZ (_ j : Int) : Prop := j ≠ 0 ∧ j.natAbs.log2 < 9000
theorem op_fdivZ : OpR X (binaryOp .FloorDiv) (rI CDivZ fun i j => .int (i.fdiv j)) := opI fun i j _ _ _ _ _ hc q =>
  floordiv_int hc.1 q (.inl (PyProof.noPylong_of_log2 hc.2))
end
end MyR

set_option Elab.async false
set_option linter.all false
set_option maxRecDepth 100000
set_option maxHeartbeats 2000000
/-! rules for instances with slots: own +, -, *, unary -, ==, !=, len, str -/
namespace OwnR
open PySem PySem.Spec PyProof.Rows L2 SlX
section
variable {X : Cx} {CX : CXT} {C g : Addr} {n : Nat} {sp : Sp} {E : XK}
/-- x op y, both instances of the class at C -/
def rBin (C : Addr) (sp : Sp) (E : XK) : R2 := fun x y H Q => ∃ a dx vs b dy ws, x = .ref a ∧ y = .ref b ∧ Slt H a C dx vs ∧ Slt H b C dy ws ∧ sp [x, y] H Q E
theorem op_bin {op : Operator} (hc : PySem.W.selfFirst X.K C = true) (hs : PySem.W.findIn X.K (.ref C) (PySem.dunder op.info.2) = some (some (.ref g))) (hf : PySem.W.isFn X.K (.ref g) = true) (F : FnR X.prog X.w X.K X.mg X.base CX n g sp)
    (hr : Room n X.A) (hx : Passes CX X E) : OpR X (binaryOp op) (rBin C sp E) := by
  intro pins s σ H x y v u Q I rx ry h
  obtain ⟨a, dx, vs, b, dy, ws, rfl, rfl, ha, hb, q⟩ := h
  cases (show v = Value.ref a from rx)
  cases (show u = Value.ref b from ry)
  obtain ⟨sl, od, _, J, _⟩ := slt_inst I ha
  obtain ⟨sl', od', _, J', _⟩ := slt_inst I hb
  obtain ⟨m, hF⟩ := I.fr
  refine PySem.W.binop_K hF I.ok.mod.kin J J'.type hc hs hf ?_
  refine wpAny_mono (wpAny_call (run_fnR (us := [.ref a, .ref b]) (vs := [.ref a, .ref b]) F hr hx I (.cons rfl (.cons rfl .nil)) q)) (fun w s' z => ?_) fun _ _ x => x
  obtain ⟨z', H', I', rz, qz⟩ := z
  exact cmpback rz ⟨z', H', I', rz, qz⟩
/-- str(x) -/
def rStrO (C : Addr) (sp : Sp) (E : XK) : List V → Hp → VK → Prop := fun xs H Q => ∃ a dx vs, xs = [V.ref a] ∧ Slt H a C dx vs ∧ sp [.ref a] H (fun z H' => ∃ t : Str, z = .str t ∧ Q z H') E
theorem call_strO (hs : PySem.W.findIn X.K (.ref C) "__str__" = some (some (.ref g))) (hf : PySem.W.isFn X.K (.ref g) = true) (F : FnR X.prog X.w X.K X.mg X.base CX n g sp) (hr : Room (n + 2) X.A) (hx : Passes CX X E) : CallR X (.type "str") (rStrO C sp E) := by
  intro pins s σ H xs us Q I r h
  obtain ⟨a, dx, vs, rfl, hsl, q⟩ := h
  obtain ⟨u, rfl, ru⟩ := r.one
  cases (show u = Value.ref a from ru)
  obtain ⟨sl, od, _, J, _⟩ := slt_inst I hsl
  have hr2 : Room n X.A.in1.in1 := (show Room (n + 1) X.A.in1 from Room.in1 hr).in1
  refine PySem.W.kso_call hr2.units0 I.kIn J hs hf (wpAny_mono (wpAny_call (run_at (us := [.ref a]) (ws := [.ref a]) F hr2 I.env0.in1.in1 hx I (.cons rfl .nil) q)) (fun w s' z => ?_) fun _ _ x => x)
  obtain ⟨z', H', I', rz, i, ei, qz⟩ := z
  subst ei
  obtain ⟨t, e⟩ := (show ∃ t, w = Value.str i t from rz)
  cases e
  exact ⟨.str i, H', I', ⟨t, rfl⟩, qz⟩
/-- the right operand of a comparison: a value of a plain type, or an instance -/
inductive RT (X : Cx) (H : Hp) : V → Value → Prop where
  | plain {x : V} {T : String} (t : TyB X.K H x T) : RT X H x (.type T)
  | inst {b C' dy : Addr} {ws : List (Option V)} (h : Slt H b C' dy ws) : RT X H (.ref b) (.ref C')
theorem rt_looks {pins : List (Addr × Obj)} {σ : L2.St} {H : Hp} {s : Shared} {y : V} {u tb : Value} (I : Inv X pins σ H s) (ry : RelV y u) (t : RT X H y tb) : PySem.W.Looks (model X.prog X.w) s.heap (typeOf u) tb := by
  cases t with
  | plain t =>
    have e := t.is I ry
    cases u with
    | ref b =>
      obtain ⟨o, h1, h2⟩ := (show ∃ o, s.heap.get? b = some o ∧ o.cls = .type _ from e)
      rw [← h2]
      exact (PySem.W.Looks.ld (part := none) h1).andThen .now
    | _ => exact PySem.W.Looks.of_pure e
  | inst h =>
    cases (show u = Value.ref _ from ry)
    obtain ⟨sl, od, _, J, _⟩ := slt_inst I h
    exact J.type
/-- x == y, x an instance of the class at C with its own __eq__ at g -/
def rEqO (X : Cx) (C : Addr) (sp : Sp) (E : XK) : R2 := fun x y H Q => ∃ a dx vs tb, x = .ref a ∧ Slt H a C dx vs ∧ RT X H y tb ∧ PySem.W.notFirst X.K C tb = true ∧ sp [x, y] H Q E
theorem op_eqO (hs : PySem.W.findIn X.K (.ref C) "__eq__" = some (some (.ref g))) (hf : PySem.W.isFn X.K (.ref g) = true) (F : FnR X.prog X.w X.K X.mg X.base CX n g sp)
    (hr : Room n X.A) (hx : Passes CX X E) : OpR X (compareOp .Eq) (rEqO X C sp E) := by
  intro pins s σ H x y v u Q I rx ry h
  obtain ⟨a, dx, vs, tb, rfl, ha, ht, hn, q⟩ := h
  cases (show v = Value.ref a from rx)
  obtain ⟨sl, od, _, J, _⟩ := slt_inst I ha
  obtain ⟨m, hF⟩ := I.fr
  show wpAny _ _ (richCompare .Eq (.ref a) u) _ _ _
  refine PySem.W.cmp_K (op := .Eq) (tb := tb) hr.units0 hF I.ok.mod.kin J (rt_looks I ry ht) hn hs hf ?_
  refine wpAny_mono (wpAny_call (run_fnR (us := [.ref a, u]) (vs := [.ref a, y]) F hr hx I (.cons rfl (.cons ry .nil)) q)) (fun w s' z => ?_) fun _ _ x => x
  obtain ⟨z', H', I', rz, qz⟩ := z
  exact cmpback rz ⟨z', H', I', rz, qz⟩
theorem objNe_entry {prog : Program} {w : World} {A : Around} {E : Value → Shared → Prop} {s : Shared} {K : PySem.W.Frag} {x C f : Addr} {ox : Obj} {od : Option Obj} {b : Value} (hu : A.units < cLine) (X : K.In s.heap) (I : PySem.W.InstAt s.heap x ox C od)
    (hs : PySem.W.findIn K (.ref C) "__eq__" = some (some (.ref f))) (hf : PySem.W.isFn K (.ref f) = true) {Q : Fin → Shared → Prop}
    (hcall : wpAny (model prog w) A (call (.ref f) [.ref x, b]) (fun v s' => ∃ r, v = .bool r ∧ Q (.done (.ret (.bool (!r)))) s') E s) : wpAny (model prog w) A (Builtin.«object.__ne__» ⟨[.ref x, b], []⟩) Q E s := by
  unfold Builtin.«object.__ne__»
  repeat (first
    | with_reducible refine wpAny_cRoomFor hu ?_
    | (refine wpAny_bind (m := callSpecialIfBound? (.ref x) (Str.ofString "__eq__") [b])
        (PySem.W.ifBound_K X I hs hf (wpAny_mono hcall (fun r s' hr => by
          obtain ⟨b, rfl, hq⟩ := hr
          repeat (first | exact hq | exact wpAny_pure hq | exact wpAny_truthy_bool hq | (refine wpAny_bind (m := truthy (.bool _)) (wpAny_truthy_bool ?_)) | wp_step)) fun _ _ e => e)))
    | wp_step)
theorem ifBound_objNe {M : Model} {A : Around} {E : Value → Shared → Prop} {s : Shared} {K : PySem.W.Frag} {x C : Addr} {ox : Obj} {od : Option Obj} {args : List Value} {Q : Option Value → Shared → Prop} (X : K.In s.heap) (I : PySem.W.InstAt s.heap x ox C od) (hs : PySem.W.findIn K (.ref C) "__ne__" = some (some (.builtin "object.__ne__")))
    (h : wpAny M A (call (.builtin "object.__ne__") (.ref x :: args)) (fun v => Q (some v)) E s) : wpAny M A (callSpecialIfBound? (.ref x) "__ne__" args) Q E s := by
  simp only [callSpecialIfBound?, bindSpecialIfBound?]
  refine wpAny_holding (wpAny_bind (wpAny_bind (wpAny_bind (I.type.here ((PySem.W.looks_findIn X hs).here ?_)))))
  refine wpAny_bind (wpAny_askSetting (wpAny_ite ?_))
  have fin : wpAny M A (call (.builtin "object.__ne__") ([.ref x] ++ args) >>= fun v => pure (some v)) Q E s := wpAny_bind (wpAny_mono h (fun v s' h' => wpAny_pure h') fun _ _ h' => h')
  split
  · exact wpAny_bind (wpAny_of_eq (F.cmp_object.ne.bind _) (wpAny_pure (by exact fin)))
  · exact wpAny_tryCatch (wpAny_bind (wpAny_of_eq (F.cmp_object.ne.bind _) (wpAny_pure (by exact fin))))
theorem rc_ne {prog : Program} {w : World} {A : Around} {E : Value → Shared → Prop} {s : Shared} {K : PySem.W.Frag} {x C f : Addr} {ox : Obj} {od : Option Obj} {b tb : Value} {Q : Value → Shared → Prop} (hu : A.units + 1 < cLine) (X : K.In s.heap) (I : PySem.W.InstAt s.heap x ox C od)
    (hb : PySem.W.Looks (model prog w) s.heap (typeOf b) tb) (hn : PySem.W.notFirst K C tb = true) (hm : PySem.W.mroIn K C (.type "object") = some true) (hne : PySem.W.findIn K (.ref C) "__ne__" = some (some (.builtin "object.__ne__")))
    (hs : PySem.W.findIn K (.ref C) "__eq__" = some (some (.ref f))) (hf : PySem.W.isFn K (.ref f) = true)
    (h : wpAny (model prog w) A.in1 (call (.ref f) [.ref x, b]) (fun v s' => ∃ r, v = .bool r ∧ Q (.bool (!r)) s') E s) : wpAny (model prog w) A (richCompare .NotEq (.ref x) b) Q E s := by
  have one : wpAny (model prog w) A (tryCompare (.ref x) "__ne__" b) (fun r s' => ∃ v, r = some v ∧ Q v s') E s := by
    unfold tryCompare
    refine wpAny_bind (ifBound_objNe X I hne (wpAny_call (codeAny_call_builtin F.cmp_object.ne.plain F.cmpEntry_ne (PySem.W.check_slot F.cmpKind_ne F.cmpSplit_ne (I.type.andThen (PySem.W.looks_mroIn X hm)) (F.cmpArgs_ne _ _) (objNe_entry (A := A.in1) hu X I hs hf (wpAny_mono h (fun v s' hv => ?_) fun _ _ e => e))))))
    obtain ⟨r, rfl, hq⟩ := hv
    exact ⟨r, rfl, wpAny_pure ⟨_, rfl, hq⟩⟩
  unfold richCompare
  simp only [oneThing_ref]
  refine wpAny_holding (wpAny_bind (wpAny_cRoomFor (by omega) ?_))
  refine wpAny_bind (I.type.here (wpAny_bind (hb.here ?_)))
  split
  · rename_i q
    have e : PySem.W.subIn K tb (.ref C) = some false := by
      rcases Bool.or_eq_true_iff.mp hn with e | e
      · rw [beq_iff_eq.mp e] at q; simp at q
      · exact beq_iff_eq.mp e
    refine wpAny_bind ((PySem.W.looks_subIn X e).here ?_)
    simp only [Bool.false_eq_true, if_false]
    refine wpAny_bind (m := tryCompare (.ref x) _ b) (wpAny_mono one (fun r s' z => ?_) fun _ _ e => e)
    obtain ⟨v, rfl, hq⟩ := z
    exact wpAny_pure hq
  · refine wpAny_bind (wpAny_pure ?_)
    simp only [Bool.false_eq_true, if_false]
    refine wpAny_bind (m := tryCompare (.ref x) _ b) (wpAny_mono one (fun r s' z => ?_) fun _ _ e => e)
    obtain ⟨v, rfl, hq⟩ := z
    exact wpAny_pure hq
/-- x != y, x an instance of the class at C with its own __eq__ at g and no __ne__ -/
def rNeO (X : Cx) (C : Addr) (sp : Sp) (E : XK) : R2 := fun x y H Q => ∃ a dx vs tb, x = .ref a ∧ Slt H a C dx vs ∧ RT X H y tb ∧ PySem.W.notFirst X.K C tb = true ∧ sp [x, y] H (fun z H' => ∃ r, z = .bl r ∧ Q (.bl (!r)) H') E
theorem op_neO (hm : PySem.W.mroIn X.K C (.type "object") = some true) (hne : PySem.W.findIn X.K (.ref C) "__ne__" = some (some (.builtin "object.__ne__"))) (hs : PySem.W.findIn X.K (.ref C) "__eq__" = some (some (.ref g))) (hf : PySem.W.isFn X.K (.ref g) = true) (F : FnR X.prog X.w X.K X.mg X.base CX n g sp)
    (hr : Room (n + 1) X.A) (hx : Passes CX X E) : OpR X (compareOp .NotEq) (rNeO X C sp E) := by
  intro pins s σ H x y v u Q I rx ry h
  obtain ⟨a, dx, vs, tb, rfl, ha, ht, hn, q⟩ := h
  cases (show v = Value.ref a from rx)
  obtain ⟨sl, od, _, J, _⟩ := slt_inst I ha
  show wpAny _ _ (richCompare .NotEq (.ref a) u) _ _ _
  refine rc_ne (Nat.lt_of_le_of_lt (Nat.le_refl _) (Room.in1 hr).units0) I.kIn J (rt_looks I ry ht) hn hm hne hs hf ?_
  refine wpAny_mono (wpAny_call (run_at (us := [.ref a, u]) (ws := [.ref a, y]) F (Room.in1 hr) I.env0.in1 hx I (.cons rfl (.cons ry .nil)) q)) (fun w s' z => ?_) fun _ _ x => x
  obtain ⟨z', H', I', rz, r, ez, qz⟩ := z
  subst ez
  cases (show w = Value.bool r from rz)
  exact ⟨r, rfl, .bl (!r), H', I', rfl, qz⟩
end
end OwnR

set_option Elab.async false
set_option linter.all false
set_option maxRecDepth 100000
set_option maxHeartbeats 2000000
/-! list(x) of an instance with own __iter__ (an iterator over a tuple) and own __len__; iter of a tuple -/
namespace OwnR
open PySem PySem.Spec PyProof.Rows L2 SlX
/-- at it an iterator over the tuple at t, the next place is i -/
def ItT (t it : Addr) (i : Nat) : HO := .ext fun h => IsTupIter h it t i
section
variable {X : Cx} {CX : CXT} {pins : List (Addr × Obj)} {σ : L2.St} {H : Hp} {s : Shared} {C g gl t it q : Addr} {n i : Nat} {sp spl : Sp} {E : XK}
/-- what stands while the iterator's items are taken -/
structure Tk (K : PySem.W.Frag) (H0 H : Hp) (t it q : Addr) (ys : List V) (i : Nat) : Prop where
  at_ : H it = some (ItT t it i)
  tu : SqT K H t ys
  li : H q = some (.lst (ys.take i))
  st : ∀ b o, b ≠ it → b ≠ q → H0 b = some o → H b = some o
end
end OwnR

set_option Elab.async false
set_option linter.all false
set_option maxRecDepth 100000
set_option maxHeartbeats 2000000
/-! a Hook that tells of defs found anywhere (a global, a class's method, a property's getter), and of classes with slots -/
namespace HookG
open PySem PySem.Spec PyProof.Rows L2 He
/-- the property f of the class at C -/
def prA (K : PySem.W.Frag) (C : Addr) (f : Str) : Addr := match PySem.W.recIn K (ma K C f) "property" with
  | some (.ref g :: _) => g
  | _ => 0
/-- where a def stands: a global; a method; a property's getter; a classmethod -/
inductive At where
  | glo (x : Str)
  | met (C m : Str)
  | prp (C f : Str)
  | cms (C m : Str)
def At.adr (K : PySem.W.Frag) : At → Addr
  | .glo x => ga K x
  | .met C m => ma K (ga K C) m
  | .prp C f => prA K (ga K C) f
  | .cms C m => He5.wf K (ga K C) "classmethod" m
structure GD where
  at_ : At
  name : Str
  qual : Str
  params : Arguments
  body : List Stmt
  scope : Scope
def fnA (K : PySem.W.Frag) (a : Addr) : FnW := match K.lookup a with
  | some ⟨_, _, .func fd, _⟩ => some (fd.name, fd.qualname, fd.params, fd.body, fd.scope, fd.globals, fd.closure, fd.builtins)
  | _ => none
def GD.val (d : GD) : FnW := some (d.name, d.qual, d.params, .stmts d.body, d.scope, mainGlobals, [], builtinsNs)
def GD.ok (K : PySem.W.Frag) (d : GD) : Bool := PySem.W.keepIn K (.ref (d.at_.adr K)) && (match K.lookup (d.at_.adr K) with
  | some ⟨_, _, .func fd, _⟩ => PySem.W.codeIn K fd.code d.qual && (dflB K fd.defaults [] && kwdB K fd.kwdefaults [])
  | _ => false)
theorem GD.funD {K : PySem.W.Frag} {d : GD} (e : fnA K (d.at_.adr K) = d.val) (c : d.ok K = true) : ∃ fd, FunD K d.name d.qual d.params d.body d.scope [] [] (d.at_.adr K) fd := by
  obtain ⟨kp, c2⟩ := ba c
  unfold fnA at e
  cases q : K.lookup (d.at_.adr K) with
  | none => rw [q] at c2; cases c2
  | some o =>
    obtain ⟨oc, od, dt, osl⟩ := o
    rw [q] at c2 e
    cases dt with
    | func fd =>
      obtain ⟨n1, n2, n3, n4, n5, n6, n7, n8, n9, n10, n11, n12, n13, n14, n15⟩ := fd
      have e2 : (some (n1, n2, n3, n4, n5, n6, n7, n15) : FnW) = some (d.name, d.qual, d.params, .stmts d.body, d.scope, mainGlobals, [], builtinsNs) := e
      simp only [Option.some.injEq, Prod.mk.injEq] at e2
      obtain ⟨h1, h2, h3, h4, h5, h6, h7, h8⟩ := e2
      subst h1 h2 h3 h4 h5 h6 h7 h8
      have c3 : (PySem.W.codeIn K n13 d.qual && (dflB K n8 [] && kwdB K n9 [])) = true := c2
      obtain ⟨k1, k2⟩ := ba c3
      obtain ⟨k3, k4⟩ := ba k2
      exact ⟨_, ⟨oc, od, n8, n9, n10, n11, n12, n13, n14, osl, rfl, q, k1, dflB_ok k3, kwdB_ok k4⟩, kp⟩
    | _ => cases c2
/-! ### facts of classes with slots -/
def dO {α : Type} [DecidableEq α] (a b : Option α) : Bool := decide (a = b)
theorem dO_ok {α : Type} [DecidableEq α] {a b : Option α} (h : dO a b = true) : a = b := of_decide_eq_true h
/-- the class at the module's name x: plain, with slots -/
def sclB (K : PySem.W.Frag) (x : Str) : Bool := PySem.W.plainGet K (ga K x) Str.empty && (PySem.W.isClsIn K (ga K x) && (PySem.W.plainOver K (ga K x) && eqO (PySem.W.findIn K (.ref (ga K x)) "__setattr__") (some (some (.builtin "object.__setattr__")))))
theorem sclB_ok {K : PySem.W.Frag} {x : Str} (h : sclB K x = true) : SlX.SCls K (ga K x) := by
  obtain ⟨c1, c⟩ := ba h
  obtain ⟨c2, c⟩ := ba c
  obtain ⟨c3, c4⟩ := ba c
  exact ⟨c1, c2, c3, eqO_ok c4⟩
def slotB (K : PySem.W.Frag) (x f : Str) (i : Nat) : Bool := eqO (PySem.W.findIn K (.ref (ga K x)) f) (some (some (.ref (ma K (ga K x) f)))) && (eqO (PySem.W.specialIn K (.ref (ma K (ga K x) f)) "__get__") (some (some (.builtin "member_descriptor.__get__"))) && (dO (PySem.W.takesIn K (.ref (ma K (ga K x) f))) (some true) && (dO (PySem.W.typeIn K (.ref (ma K (ga K x) f))) (some (.type "member_descriptor")) && dO (PySem.W.slotIn K (ma K (ga K x) f) (ga K x)) (some i))))
theorem slotB_ok {K : PySem.W.Frag} {x f : Str} {i : Nat} (h : slotB K x f i = true) (hi : i < 1000) : SlX.Slot1 K (ga K x) f (ma K (ga K x) f) i := by
  obtain ⟨c1, c⟩ := ba h
  obtain ⟨c2, c⟩ := ba c
  obtain ⟨c3, c⟩ := ba c
  obtain ⟨c4, c5⟩ := ba c
  exact ⟨eqO_ok c1, eqO_ok c2, dO_ok c3, dO_ok c4, dO_ok c5, hi⟩
def sisB (K : PySem.W.Frag) (x : Str) : Bool := eqO (PySem.W.findIn K (.ref (ga K x)) "__class__") (some (some (.builtin "object.__class__"))) && (eqO (PySem.W.specialIn K (.builtin "object.__class__") "__get__") (some (some (.builtin "getset_descriptor.__get__"))) && (dO (PySem.W.takesIn K (.builtin "object.__class__")) (some true) && dO (PySem.W.mroIn K (ga K x) (.type "object")) (some true)))
theorem sisB_ok {K : PySem.W.Frag} {x : Str} (h : sisB K x = true) : SlX.SIsi K (ga K x) := by
  obtain ⟨c1, c⟩ := ba h
  obtain ⟨c2, c⟩ := ba c
  obtain ⟨c3, c4⟩ := ba c
  exact ⟨eqO_ok c1, eqO_ok c2, dO_ok c3, dO_ok c4⟩
/-- a method: found in the class, a function -/
structure Mt (K : PySem.W.Frag) (C : Addr) (m : Str) (g : Addr) : Prop where
  at_ : PySem.W.findIn K (.ref C) m = some (some (.ref g))
  fn : PySem.W.isFn K (.ref g) = true
def mtB (K : PySem.W.Frag) (x m : Str) : Bool := eqO (PySem.W.findIn K (.ref (ga K x)) m) (some (some (.ref (ma K (ga K x) m)))) && PySem.W.isFn K (.ref (ma K (ga K x) m))
theorem mtB_ok {K : PySem.W.Frag} {x m : Str} (h : mtB K x m = true) : Mt K (ga K x) m (ma K (ga K x) m) := by
  obtain ⟨c1, c2⟩ := ba h
  exact ⟨eqO_ok c1, c2⟩
/-- a property, its getter at g -/
structure Pr (K : PySem.W.Frag) (C : Addr) (f : Str) (p g : Addr) : Prop where
  at_ : PySem.W.findIn K (.ref C) f = some (some (.ref p))
  get : PySem.W.specialIn K (.ref p) "__get__" = some (some (.builtin "property.__get__"))
  tk : PySem.W.takesIn K (.ref p) = some true
  rc : ∃ rest, PySem.W.recIn K p "property" = some (.ref g :: rest)
def recB (K : PySem.W.Frag) (p g : Addr) : Bool := match PySem.W.recIn K p "property" with
  | some (.ref a :: _) => decide (a = g)
  | _ => false
def prB (K : PySem.W.Frag) (x f : Str) : Bool := eqO (PySem.W.findIn K (.ref (ga K x)) f) (some (some (.ref (ma K (ga K x) f)))) && (eqO (PySem.W.specialIn K (.ref (ma K (ga K x) f)) "__get__") (some (some (.builtin "property.__get__"))) && (dO (PySem.W.takesIn K (.ref (ma K (ga K x) f))) (some true) && recB K (ma K (ga K x) f) (prA K (ga K x) f)))
theorem prB_ok {K : PySem.W.Frag} {x f : Str} (h : prB K x f = true) : Pr K (ga K x) f (ma K (ga K x) f) (prA K (ga K x) f) := by
  obtain ⟨c1, c⟩ := ba h
  obtain ⟨c2, c⟩ := ba c
  obtain ⟨c3, c4⟩ := ba c
  refine ⟨eqO_ok c1, eqO_ok c2, dO_ok c3, ?_⟩
  unfold recB at c4
  cases q : PySem.W.recIn K (ma K (ga K x) f) "property" with
  | none => rw [q] at c4; cases c4
  | some l =>
    rw [q] at c4
    cases l with
    | nil => cases c4
    | cons a r =>
      cases a with
      | ref b =>
        have e : b = prA K (ga K x) f := of_decide_eq_true c4
        rw [← e]
        exact ⟨r, rfl⟩
      | _ => cases c4
/-! ### the Hook -/
abbrev AlG : Type := Bool × List FnW
def obsG (fa : List Fa) (fn : List GD) (ex : PySem.W.Frag → Bool) (K : PySem.W.Frag) : AlG := ((fa.all fun f => f.ok K) && ((fn.all fun d => d.ok K) && ex K), fn.map fun d => fnA K (d.at_.adr K))
def valG (fn : List GD) : AlG := (true, fn.map GD.val)
def SaysG (fa : List Fa) (fn : List GD) (ex : PySem.W.Frag → Bool) (K : PySem.W.Frag) : Prop := obsG fa fn ex K = valG fn
section
variable {fa : List Fa} {fn : List GD} {ex : PySem.W.Frag → Bool} {K : PySem.W.Frag}
theorem SaysG.all (c : SaysG fa fn ex K) : ((fa.all fun f => f.ok K) && ((fn.all fun d => d.ok K) && ex K)) = true := congrArg (fun z : AlG => z.1) c
theorem SaysG.fact (c : SaysG fa fn ex K) (i : Nat) {f : Fa} (h : fa[i]? = some f := by rfl) : f.ok K = true := List.all_eq_true.mp (ba c.all).1 f (List.mem_of_getElem? h)
theorem SaysG.more (c : SaysG fa fn ex K) : ex K = true := (ba (ba c.all).2).2
theorem SaysG.def_ (c : SaysG fa fn ex K) (i : Nat) {d : GD} (h : fn[i]? = some d := by rfl) : ∃ fd, FunD K d.name d.qual d.params d.body d.scope [] [] (d.at_.adr K) fd := by
  have c2 := (ba (ba c.all).2).1
  have e : fn.map (fun d => fnA K (d.at_.adr K)) = fn.map GD.val := congrArg (fun z : AlG => z.2) c
  have e2 : (fn.map fun d => fnA K (d.at_.adr K))[i]? = (fn.map GD.val)[i]? := by rw [e]
  rw [List.getElem?_map, List.getElem?_map, h] at e2
  exact GD.funD (Option.some.inj e2) (List.all_eq_true.mp c2 d (List.mem_of_getElem? h))
end
end HookG

set_option Elab.async false
set_option linter.all false
set_option maxRecDepth 100000
set_option maxHeartbeats 2000000
/-! HookG's Hook over a lesser fragment: what the globals name, what is named by that, and so on; a function names its code and its defaults only -/
namespace HookG
open PySem PySem.Spec PyProof.Rows L2 He
def refsW (o : Obj) : List Addr := match o.data with
  | .func fd => refV fd.code ++ refV fd.defaults ++ refV fd.kwdefaults
  | _ => refsD o
def nxtW (g : Addr → Option Obj) (as : List Addr) : List Addr := as.flatMap fun a => match g a with
  | some o => refsW o
  | none => []
def levW (g : Addr → Option Obj) : Nat → List Addr → List Addr
  | 0, as => as
  | n + 1, as => as ++ levW g n (nxtW g as)
def asW (g : Addr → Option Obj) (n : Nat) : List Addr := levW g n [mainGlobals] ++ [cStatics]
def obsGW (n : Nat) (fa : List Fa) (fn : List GD) (ex : PySem.W.Frag → Bool) (g : Addr → Option Obj) : AlG := obsG fa fn ex (frG g (asW g n))
def hookW (n : Nat) (fa : List Fa) (fn : List GD) (ex : PySem.W.Frag → Bool) : PySem.W.Hook where
  α := AlG
  obs := fun s => obsGW n fa fn ex s.heap.get?
  val := fun _ => valG fn
  says := fun _ h => ∃ K : PySem.W.Frag, K.In h ∧ SaysG fa fn ex K
  of := fun _ _ e => ⟨_, frG_in, e⟩
  keeps := fun _ _ _ ⟨K, hK, c⟩ k => ⟨K, PySem.W.Frag.In.keeps hK k, c⟩
theorem obsGW_eq {n : Nat} {fa : List Fa} {fn : List GD} {ex : PySem.W.Frag → Bool} {g : Addr → Option Obj} {s : Shared} (h : ∀ a, g a = s.heap.get? a) : obsGW n fa fn ex g = (hookW n fa fn ex).obs s := by
  have e : g = s.heap.get? := funext h
  rw [e] <;> rfl
end HookG

set_option Elab.async false
set_option linter.all false
set_option maxRecDepth 100000
set_option maxHeartbeats 2000000
/-! a module's constant that is a tuple of ints; `n not in t` for a tuple of ints -/
namespace StatT
open PySem PySem.Spec PyProof.Rows L2 He HookG
def intsB : List Int → List Value → Bool
  | [], [] => true
  | i :: l, .int j _ :: us => decide (i = j) && intsB l us
  | _, _ => false
theorem intsB_ok : ∀ {l : List Int} {us : List Value}, intsB l us = true → Vals (l.map V.int) us
  | [], [], _ => .nil
  | i :: l, .int j t :: us, h => by
    obtain ⟨h1, h2⟩ := ba (show (decide (i = j) && intsB l us) = true from h)
    have e : i = j := of_decide_eq_true h1
    subst e
    exact .cons ⟨t, rfl⟩ (intsB_ok h2)
def tupB (K : PySem.W.Frag) (x : Str) (l : List Int) : Bool := eqO (PySem.W.nsIn K mainGlobals x) (some (some (.ref (ga K x)))) && (match K.lookup (ga K x) with
  | some ⟨.type "tuple", _, .seq its _, _⟩ => intsB l its.toList && decide (its.size ≤ 1000)
  | _ => false)
/-- x is a tuple of these ints -/
structure Tp (K : PySem.W.Frag) (mg : Str → Option Value) (x : Str) (l : List Int) (a : Addr) : Prop where
  g : mg x = some (.ref a)
  sq : ∀ H : Hp, SqT K H a (l.map V.int)
theorem tupB_ok {K : PySem.W.Frag} {h : Heap} {mg : Str → Option Value} {x : Str} {l : List Int} (X : K.In h) (G : h.Ns mainGlobals mg) (c : tupB K x l = true) : Tp K mg x l (ga K x) := by
  obtain ⟨c1, c2⟩ := ba c
  refine ⟨PySem.W.mg_of X G (eqO_ok c1), fun H => ?_⟩
  split at c2
  · rename_i od its n sl ho
    obtain ⟨c3, c4⟩ := ba c2
    have hz : its.size ≤ 1000 := of_decide_eq_true c4
    exact .inr ⟨_, its, n, ho, rfl, rfl, by rw [sizeLine_eq]; omega, intsB_ok c3⟩
  · cases c2
section
variable {X : Cx}
def rNotInTI (K : PySem.W.Frag) : V → V → Hp → VK → Prop := fun x y H Q => ∃ (i : Int) (a : Addr) (ns : List Int), x = .int i ∧ y = .ref a ∧ SqT K H a (ns.map V.int) ∧ Q (.bl (!ns.any (· == i))) H
def isI (i : Int) : Value → Bool
  | .int j _ => j == i
  | _ => false
theorem vals_any (i : Int) : ∀ {ns : List Int} {us : List Value}, Vals (ns.map V.int) us → us.any (isI i) = ns.any (· == i) ∧ ∀ y ∈ us, ∃ j t, y = .int j t
  | [], us, h => by
    cases h
    exact ⟨rfl, fun y hy => (nomatch hy)⟩
  | n :: ns, us, h => by
    cases h with
    | cons h1 h2 =>
      obtain ⟨t, rfl⟩ := h1
      obtain ⟨e, a⟩ := vals_any i h2
      refine ⟨by rw [List.any_cons, List.any_cons, e]; rfl, fun y hy => ?_⟩
      rcases List.mem_cons.mp hy with rfl | hy
      · exact ⟨n, t, rfl⟩
      · exact a y hy
theorem op_notInTI : OpR X (compareOp .NotIn) (rNotInTI X.K) := by
  intro pins s σ H x y v u Q I rx ry h
  obtain ⟨i, a, ns, rfl, rfl, ha, q⟩ := h
  obtain ⟨t, rfl⟩ := rx
  obtain rfl : u = Value.ref a := ry
  obtain ⟨its, r, ht, _⟩ := I.tuple ha
  obtain ⟨e, al⟩ := vals_any i r
  refine SeqAt.notIn_tupleAt (isI i) ht (fun y hy => ?_) ?_
  · obtain ⟨j, tj, rfl⟩ := al y (by simpa using hy)
    exact SeqAt.EqAt.int_int j tj i t
  · rw [show its.toArray.any (isI i) = its.any (isI i) by simp, e]
    exact ⟨.bl _, H, I, rfl, q⟩
end
end StatT

set_option Elab.async false
set_option linter.all false
set_option maxRecDepth 100000
set_option maxHeartbeats 2000000
/-! the rules of OwnR, OwnL, over the facts of HookG -/
namespace OwnF
open PySem PySem.Spec PyProof.Rows L2 He SlX OwnR HookG
/-- what is asked of a class with slots -/
structure OC (K : PySem.W.Frag) (C : Addr) : Prop where
  scl : SCls K C
  sis : SIsi K C
  first : PySem.W.selfFirst K C = true
  ne : PySem.W.findIn K (.ref C) "__ne__" = some (some (.builtin "object.__ne__"))
  ntup : PySem.W.notFirst K C (.type "tuple") = true
  rmul : PySem.W.findIn K (.ref C) "__rmul__" = some none
  imul : PySem.W.findIn K (.type "int") "__mul__" = some (some (.builtin "int.__mul__"))
  irmul : PySem.W.findIn K (.type "int") "__rmul__" = some (some (.builtin "int.__rmul__"))
  isub : PySem.W.subIn K (.type "int") (.ref C) = some false
  kself : PySem.W.kitOne K (.ref C) (.ref C) = some true
  ktup : PySem.W.kitOne K (.type "tuple") (.ref C) = some false
  kint : PySem.W.kitOne K (.type "int") (.ref C) = some false
def ocB (K : PySem.W.Frag) (x : Str) : Bool := sclB K x && (sisB K x && (PySem.W.selfFirst K (ga K x) && (eqO (PySem.W.findIn K (.ref (ga K x)) "__ne__") (some (some (.builtin "object.__ne__"))) && (PySem.W.notFirst K (ga K x) (.type "tuple") && (eqO (PySem.W.findIn K (.ref (ga K x)) "__rmul__") (some none) && (eqO (PySem.W.findIn K (.type "int") "__mul__") (some (some (.builtin "int.__mul__"))) && (eqO (PySem.W.findIn K (.type "int") "__rmul__") (some (some (.builtin "int.__rmul__"))) && (dO (PySem.W.subIn K (.type "int") (.ref (ga K x))) (some false) && (dO (PySem.W.kitOne K (.ref (ga K x)) (.ref (ga K x))) (some true) && (dO (PySem.W.kitOne K (.type "tuple") (.ref (ga K x))) (some false) && dO (PySem.W.kitOne K (.type "int") (.ref (ga K x))) (some false)))))))))))
theorem ocB_ok {K : PySem.W.Frag} {x : Str} (h : ocB K x = true) : OC K (ga K x) := by
  obtain ⟨c1, c⟩ := ba h
  obtain ⟨c2, c⟩ := ba c
  obtain ⟨c3, c⟩ := ba c
  obtain ⟨c4, c⟩ := ba c
  obtain ⟨c5, c⟩ := ba c
  obtain ⟨c6, c⟩ := ba c
  obtain ⟨c7, c⟩ := ba c
  obtain ⟨c8, c⟩ := ba c
  obtain ⟨c9, c⟩ := ba c
  obtain ⟨c10, c⟩ := ba c
  obtain ⟨c11, c12⟩ := ba c
  exact ⟨sclB_ok c1, sisB_ok c2, c3, eqO_ok c4, c5, eqO_ok c6, eqO_ok c7, eqO_ok c8, dO_ok c9, dO_ok c10, dO_ok c11, dO_ok c12⟩
theorem raw0 {P : Program} {w : World} {K : PySem.W.Frag} {mg : Str → Option Value} {base : Heap} {CX : CXT} {k : Nat} {f : Addr} {sp : Sp} {fd : FuncData} {ps : List Str} (F : FnOk P w K mg base CX k f fd ps sp) (hb : Binds K fd ps []) : FnR P w K mg base CX k f sp :=
  (F.raw hb .nil).imp fun vs H Q E h => by rw [List.append_nil]; exact h
section
variable {X : Cx} {C g gl pp : Addr} {n : Nat} {sp spl : Sp} {fd fdl : FuncData} {ps psl : List Str} {f : Str} {e : Expr} {pos : Pos} {ta : TE}
theorem hx0 : ∀ (H : Hp) (s : Shared) (e : Value) (s' : Shared), CX0 X.stack H s E0 e s' → False := fun _ _ _ _ h => h
theorem pe_prp (he : PE X e ta) (c : OC X.K C) (p : Pr X.K C f pp g) (F : FnOk X.prog X.w X.K X.mg X.base CX0 n g fd ps sp) (hb : Binds X.K fd ps []) (hr : Room (n + 1) X.A) (hb2 : attributeBase e f X.env (eval e X.env) = eval e X.env := by rfl) : PE X (.Attribute e f pos) (tPropSl C sp E0 ta) :=
  pe_propSl he c.scl p.at_ p.get p.tk p.rc (raw0 F hb) hr hx0 hb2
theorem op_mulO (c : OC X.K C) (m : Mt X.K C "__mul__" g) (F : FnOk X.prog X.w X.K X.mg X.base CX0 n g fd ps sp) (hb : Binds X.K fd ps []) (hr : Room n X.A) : OpR X (binaryOp .Mult) (rBin C sp E0) :=
  op_bin c.first ((show PySem.dunder (Operator.info .Mult).2 = ("__mul__" : Str) by decide +kernel) ▸ m.at_) m.fn (raw0 F hb) hr pass0
theorem op_eqF (m : Mt X.K C "__eq__" g) (F : FnOk X.prog X.w X.K X.mg X.base CX0 n g fd ps sp) (hb : Binds X.K fd ps []) (hr : Room n X.A) : OpR X (compareOp .Eq) (rEqO X C sp E0) := op_eqO m.at_ m.fn (raw0 F hb) hr pass0
theorem op_neF (c : OC X.K C) (m : Mt X.K C "__eq__" g) (F : FnOk X.prog X.w X.K X.mg X.base CX0 n g fd ps sp) (hb : Binds X.K fd ps []) (hr : Room (n + 1) X.A) : OpR X (compareOp .NotEq) (rNeO X C sp E0) := op_neO c.sis.cm c.ne m.at_ m.fn (raw0 F hb) hr pass0
theorem call_strF (m : Mt X.K C "__str__" g) (F : FnOk X.prog X.w X.K X.mg X.base CX0 n g fd ps sp) (hb : Binds X.K fd ps []) (hr : Room (n + 2) X.A) : CallR X (.type "str") (rStrO C sp E0) := call_strO m.at_ m.fn (raw0 F hb) hr pass0
theorem iter_anyT {prog : Program} {w : World} {A : Around} {E : Value → Shared → Prop} {s : Shared} {l : Addr} {items : Array Value} {Q : Value → Shared → Prop} (hl : s.heap.IsTuple l items)
    (h : ∀ s₂ : Shared, s₂ = { s with heap := s.heap.push { cls := .type "tuple_iterator", data := .fields #[.ref l, .int 0 0] } } →
      (s₂.heap.IsTupleIter s.heap.objs.size l 0 ∧ s₂.heap.IsTuple l items) → l ≠ s.heap.objs.size → Q (.ref s.heap.objs.size) s₂) : wpAny (model prog w) A (pyIter (.ref l)) Q E s := by
  have hlt : l < s.heap.objs.size := by obtain ⟨_, e, _⟩ := hl; exact Heap.lt_size e
  exact wpAny_pyIter_tuple hl (h _ rfl ⟨⟨_, Heap.get?_push_size _ rfl, rfl, rfl⟩, hl.push _⟩ (Nat.ne_of_lt hlt))
theorem truth_ints {prog : Program} {w : World} {A : Around} {ns : List Int} {its : List Value} (r : Vals (ns.map V.int) its) :
    TruthOf prog w A (fun i v => its.toArray[i]? = some v) (fun i => ns.getD i 0 != 0) := fun i v s Q E hv hq => by
  have hv' : its[i]? = some v := by simpa using hv
  have hlen := r.length
  rw [List.length_map] at hlen
  have hlt : i < ns.length := by
    have := (List.getElem?_eq_some_iff.mp hv').1
    omega
  obtain ⟨u, hu, t, ru⟩ := r.get (show (ns.map V.int)[i]? = some (.int ns[i]) by rw [List.getElem?_map, List.getElem?_eq_getElem hlt]; rfl)
  rw [hv'] at hu
  cases hu
  subst ru
  have hg : ns.getD i 0 = ns[i] := by rw [List.getD_eq_getElem?_getD, List.getElem?_eq_getElem hlt] <;> rfl
  have hq' : Q (ns.getD i 0 != 0) s := hq
  rw [hg] at hq'
  exact truthy_int hq'
theorem any_rangeI : ∀ ns : List Int, (List.range ns.length).any (fun i => ns.getD i 0 != 0) = ns.any (· != 0)
  | [] => rfl
  | b :: bs => by
    rw [List.length_cons, List.range_succ_eq_map, List.any_cons, List.any_map, List.any_cons, ← any_rangeI bs]
    all_goals rfl
/-- any of a tuple of ints -/
def rAnyTI (K : PySem.W.Frag) : List V → Hp → VK → Prop := fun vs H Q => ∃ (a : Addr) (ns : List Int), vs = [V.ref a] ∧ SqT K H a (ns.map V.int) ∧ Q (.bl (ns.any (· != 0))) H
theorem cr_anyTI (hc : X.calm = true) : CallR X (.builtin "any") (rAnyTI X.K) := by
  intro pins s σ H vs us Q I r h
  obtain ⟨a, ns, rfl, hs, q⟩ := h
  obtain ⟨its, rv, hl, _⟩ := I.tuple hs
  rw [Vals.ref1 r]
  have hlen := rv.length
  rw [List.length_map] at hlen
  refine call_any_walk (iter_anyT (show s.heap.IsTuple a its.toArray from hl) fun s₂ e2 st hne => ?_)
  subst e2
  refine ⟨_, _, _, _, _, _, _, rfl, Walks.tuple (A := X.A.in1) (I.ok.hd hc) _ a hne its.toArray, st, truth_ints rv, fun h' tk hk => ?_⟩
  refine ⟨.bl _, H, I.kept fun b o eo => hk b o (fun hmem => ?_) (Heap.get?_push_of_some _ eo), ?_, q⟩
  · rcases List.mem_cons.mp hmem with e1 | hmem
    · exact absurd (e1 ▸ Heap.lt_size eo) (Nat.lt_irrefl _)
    · cases hmem
  · show Value.bool _ = Value.bool _
    rw [← any_rangeI, List.size_toArray, ← hlen]
/-- repr of a bool -/
theorem call_reprB : CallR X (.builtin "repr") (fun xs H Q => ∃ b : Bool, xs = [.bl b] ∧ Q (.str (if b then "True" else "False")) H) := by
  intro pins s σ H xs us Q I r h
  obtain ⟨b, rfl, q⟩ := h
  obtain ⟨u, rfl, ru⟩ := r.one
  cases (show u = Value.bool b from ru)
  exact PySem.P.repr_of_bool ⟨.str _, H, I.tok _, ⟨_, rfl⟩, q⟩
/-- isinstance(x, C): x of a plain type, or an instance -/
theorem call_isiF (C : Addr) : CallR X (.builtin "isinstance") (fun xs H Q => rIsi X.K xs H Q ∨ rIsiSl X.K (.ref C) xs H Q) := call_isi.or (call_isiSl (.ref C))
end
end OwnF

set_option Elab.async false
set_option linter.all false
set_option maxRecDepth 100000
set_option maxHeartbeats 2000000
/-! a method of an instance with slots -/
namespace OwnF
open PySem PySem.Spec PyProof.Rows L2 He SlX OwnR HookG
section
variable {X : Cx} {C g : Addr} {n : Nat} {sp : Sp} {fd : FuncData} {ps : List Str} {o e : Expr} {es : List Expr} {x : Str} {pos apos : Pos} {ta : TE} {t : TA}
theorem pe_mSl {pl : Sem Bool} (he : PE X o ta) (c : OC X.K C) (m : Mt X.K C x g) (kp : PySem.W.keepIn X.K (.ref g) = true) (F : FnOk X.prog X.w X.K X.mg X.base CX0 n g fd ps sp) (hb : Binds X.K fd ps []) (hr : Room n X.A) (ha : PA X (e :: es) t)
    (hst : starEach (e :: es) X.env = (false, eval e X.env) :: starEach es X.env := by rfl) (hpl : (backTo pos (starEach es X.env)).any (·.1) = false := by rfl)
    (ht : eval (.Call (.Attribute o x apos) (e :: es) [] pos) X.env = (do
      let ov ← eval o X.env
      standAt apos.atName
      let (f, first) ← holding [ov] (getMethod ov x pl)
      callWith pos f first (backTo pos (starEach (e :: es) X.env)) (backToKw pos (keywordEach [] X.env))) := by rfl) :
    PE X (.Call (.Attribute o x apos) (e :: es) [] pos) (tMethSl C sp E0 ta t) :=
  pe_methSl (pl := pl) he c.scl ⟨m.at_, m.fn, kp⟩ (raw0 F hb) hr pass0 ha hst hpl ht
end
end OwnF

set_option Elab.async false
set_option linter.all false
set_option maxRecDepth 100000
set_option maxHeartbeats 2000000
/-! classmethods, classes in local names, xs[i] op= e -/
namespace OwnC
open PySem PySem.Spec PyProof.Rows L2 He SlX OwnR HookG OwnF
/-- C.m is a classmethod: its record at p, its def at g -/
structure Cm (K : PySem.W.Frag) (C : Addr) (m : Str) (p g : Addr) : Prop where
  rd : ClX.CRead K C (.type "type")
  cm : ClX.CMet K C (.type "type") m p g
def cmB (K : PySem.W.Frag) (x m : Str) : Bool := PySem.W.readsIn K (ga K x) (.type "type") && (He5.wrapB K (ga K x) "classmethod" "classmethod.__get__" m && PySem.W.fnIn K (He5.wf K (ga K x) "classmethod" m))
theorem cread_of {K : PySem.W.Frag} {C : Addr} (h : PySem.W.readsIn K C (.type "type") = true) : ClX.CRead K C (.type "type") := by
  refine ⟨h, ?_⟩
  unfold PySem.W.readsIn at h
  obtain ⟨h, _⟩ := ba h
  obtain ⟨h, _⟩ := ba h
  obtain ⟨h, h3⟩ := ba h
  obtain ⟨_, h2⟩ := ba h
  unfold PySem.W.specialIn
  rw [beq_iff_eq.mp h2, Option.bind_some]
  exact beq_iff_eq.mp h3
theorem cmB_ok {K : PySem.W.Frag} {x m : Str} (h : cmB K x m = true) : Cm K (ga K x) m (ma K (ga K x) m) (He5.wf K (ga K x) "classmethod" m) := by
  obtain ⟨c1, c⟩ := ba h
  obtain ⟨c2, c3⟩ := ba c
  obtain ⟨h1, h2⟩ := He5.wrapB_ok c2
  exact ⟨cread_of c1, h1, h2, c3⟩
section
variable {X : Cx} {C p g f : Addr} {n i : Nat} {sp : Sp} {fd : FuncData} {ps : List Str} {o e : Expr} {es : List Expr} {m x : Str} {pos apos pp : Pos} {ta : TE} {t : TA}
theorem pe_cmF {pl : Sem Bool} (he : PE X o ta) (c : Cm X.K C m p g) (F : FnOk X.prog X.w X.K X.mg X.base CX0 n g fd ps sp) (hb : Binds X.K fd ps []) (hr : Room n X.A) (ha : PA X (e :: es) t)
    (hst : starEach (e :: es) X.env = (false, eval e X.env) :: starEach es X.env := by rfl) (hpl : (backTo pos (starEach es X.env)).any (·.1) = false := by rfl)
    (ht : eval (.Call (.Attribute o m apos) (e :: es) [] pos) X.env = (do
      let ov ← eval o X.env
      standAt apos.atName
      let (f, first) ← holding [ov] (getMethod ov m pl)
      callWith pos f first (backTo pos (starEach (e :: es) X.env)) (backToKw pos (keywordEach [] X.env))) := by rfl) :
    PE X (.Call (.Attribute o m apos) (e :: es) [] pos) (ClX.tCMeth C sp E0 ta t) :=
  ClX.pe_cmeth (pl := pl) he c.rd c.cm (raw0 F hb) hr pass0 ha hst hpl ht
/-- c(e, ..), c a local name that holds the class at C -/
def tMakeV (i : Nat) (C : Addr) (sp : Sp) (t : TA) : TE := fun σ H Q => σ[i]? = some (some (.ref C)) ∧ tMake C sp [] E0 t σ H Q
theorem pe_makeV (M : Mk X.K C f) (F : FnOk X.prog X.w X.K X.mg X.base CX0 n f fd ps sp) (hr : Room (n + 1) X.A) (hb : Binds X.K fd ps []) (hN : X.N[i]? = some x) (hv : Vis X.env.scope x) (ha : PA X (e :: es) t)
    (hd : (x == ("__debug__" : Str)) = false := by decide) (hcd : (x == ("__classdict__" : Str)) = false := by decide)
    (he : starEach (e :: es) X.env = (false, eval e X.env) :: starEach es X.env := by rfl) (hpl : (backTo pos (starEach es X.env)).any (·.1) = false := by rfl) : PE X (.Call (.Name x pp) (e :: es) [] pos) (tMakeV i C sp t) := by
  refine ⟨fun pins s σ H Q I h => ?_⟩
  obtain ⟨hs, h⟩ := h
  refine wpAny_Call_Name_kw (thn ((pe_var (pos := pp) (i := i) hN hv hd hcd).run pins s σ H (fun v H1 => v = .ref C ∧ H1 = H) I ⟨.ref C, hs, rfl, rfl⟩) fun u s1 ⟨v, H1, I1, r1, ev, eH⟩ => ?_)
  subst ev
  rw [eH] at I1
  cases r1
  refine PySem.W.callWith_K (h₀ := X.base) I.ok.mod.kin M.kp (thn (ha.run pos pins s1 σ H _ I1 h) fun us s2 ⟨vs, H2, I2, r, q⟩ => ⟨I2.kIn, ?_⟩) he hpl
  exact run_make M F hr hb .nil pass0 I2 r q
end
end OwnC

set_option Elab.async false
set_option linter.all false
set_option maxRecDepth 100000
set_option maxHeartbeats 2000000
/-! enumerate(t), t a tuple -/
namespace EnumT
open PySem PySem.Spec PyProof.Rows L2
open AutoSeq1 (wpAny_loadPart')
theorem meets_newT (l : Addr) (items : Array Value) (n : Nat) (dct : Option Addr) (sl : Array (Option Value)) :
    Meets (Builtin.«enumerate.__new__» ⟨[.type "enumerate", .ref l], []⟩) (fun _ R s => s.heap.get? l = some { cls := .type "tuple", dict := dct, data := .seq items n, slots := sl } ∧
      R (.ok (.ret (.ref (s.heap.push { cls := .type "tuple_iterator", data := .fields #[.ref l, .int 0 0] }).objs.size)))
        { s with heap := (s.heap.push { cls := .type "tuple_iterator", data := .fields #[.ref l, .int 0 0] }).push { cls := .type "enumerate", data := .fields #[.none, .bool false, .ref s.heap.objs.size, rawInt 0, .none, .none] } }) :=
  .of_wp fun prog w A R s h => by
    obtain ⟨hp, g, d, tk, os⟩ := s; obtain ⟨hl, h⟩ := h
    have hsub := sub_enumerate
    have hL : Heap.IsTuple (Shared.heap ⟨hp, g, d, tk, os⟩) l items := ⟨_, hl, rfl, n, rfl⟩
    wp_walk using wpAny_loadPart' hl
    refine wpAny_stack_any fun st => wpAny_pure ?_
    split
    · rename_i c _ _ _ _ _
      cases (c == Value.type "enumerate")
      · wp_walk using wpAny_loadPart' hl, wpAny_pyIter_tuple hL
        exact ⟨_, rfl, h⟩
      · wp_walk using wpAny_loadPart' hl, wpAny_pyIter_tuple hL
        exact ⟨_, rfl, h⟩
    · wp_walk using wpAny_loadPart' hl, wpAny_pyIter_tuple hL
      exact ⟨_, rfl, h⟩
section
variable {prog : Program} {w : World} {A : Around} {E : Value → Shared → Prop} {s : Shared}
theorem call_enumT {l : Addr} {items : Array Value} {Q : Value → Shared → Prop} (hL : s.heap.IsTuple l items)
    (h : ∀ h', IsEnum h' (s.heap.objs.size + 1) s.heap.objs.size 0 .none → h'.IsTupleIter s.heap.objs.size l 0 → h'.objs.size = s.heap.objs.size + 2 →
      (∀ b o, s.heap.get? b = some o → h'.get? b = some o) → Q (.ref (s.heap.objs.size + 1)) { s with heap := h' }) :
    wpAny (model prog w) A (call (.type "enumerate") [.ref l]) Q E s := by
  obtain ⟨⟨c, dct, dt, sl⟩, hl, hc, n, hd⟩ := hL
  replace hc : c = .type "tuple" := hc
  replace hd : dt = .seq items n := hd
  subst hc hd
  refine callType_new F.called_enumerate (by decide) (F.typeCall_enumerate_1 _) (F.newCall_enumerate_1 _) (fun obj => F.args_object_init_2 obj _) F.entry_enumerate_new
    (meets_newT l items n dct sl) ⟨hl, ?_⟩
  have hz : (s.heap.push { cls := .type "tuple_iterator", data := .fields #[.ref l, .int 0 0] }).objs.size = s.heap.objs.size + 1 := Heap.size_push ..
  show _ ∧ _
  rw [hz]
  have he : IsEnum ((s.heap.push { cls := .type "tuple_iterator", data := .fields #[.ref l, .int 0 0] }).push
      { cls := .type "enumerate", data := .fields #[.none, .bool false, .ref s.heap.objs.size, rawInt 0, .none, .none] }) (s.heap.objs.size + 1) s.heap.objs.size 0 .none := by
    have := Heap.get?_push_size (s.heap.push { cls := .type "tuple_iterator", data := .fields #[.ref l, .int 0 0] })
      (o := { cls := .type "enumerate", data := .fields #[.none, .bool false, .ref s.heap.objs.size, rawInt 0, .none, .none] }) rfl
    rw [hz] at this; exact this
  refine ⟨⟨_, he, rfl⟩, h _ he ⟨_, Heap.get?_push_of_some _ (Heap.get?_push_size _ rfl), rfl, rfl⟩ (by rw [Heap.size_push, hz]) fun b o x => Heap.get?_push_of_some _ (Heap.get?_push_of_some _ x)⟩
end
/-- the tuple at a, each item in a new pair -/
def IteT (K : PySem.W.Frag) (a : Addr) : It :=
  ⟨fun i H => ∃ (xs : List V) (x : V), SqT K H a xs ∧ xs[i]? = some x, fun i H v H' => ∃ T x, v = .ref T ∧ H T = none ∧ H' = upd H T (.tup [.int (i : Nat), x]) ∧ ∀ xs, SqT K H a xs → xs[i]? = some x, fun i H => ∃ xs : List V, SqT K H a xs ∧ xs.length = i⟩
theorem turn_enumT {P : Program} {w : World} {K : PySem.W.Frag} {elts : List Expr} {kk : Nat} {tpos : Pos} (a e it : Addr) (hait : a ≠ it) (hae : a ≠ e) :
    Turn P w K (.Tuple elts kk tpos) (IteT K a) [e, it] e (fun i h => (∃ old, IsEnum h e it ((i : Nat) : Int) old) ∧ h.IsTupleIter it a i ∧ e ≠ it) where
  mem := by simp
  obj := fun i h st b hb => by
    obtain ⟨⟨old, he⟩, ⟨o, ho, hc, hd⟩, _⟩ := st
    have e' : b = e ∨ b = it := by simpa using hb
    rcases e' with z | z
    · rw [z]; exact ⟨_, he, fun v q => nomatch q⟩
    · rw [z]; exact ⟨o, ho, fun v q => by rw [hd] at q; cases q⟩
  keep := fun i h h' st k => let ⟨⟨old, he⟩, hi, hne⟩ := st; ⟨⟨old, k e (by simp) _ he⟩, hi.at fun o q => k it (by simp) o q, hne⟩
  item := by
    intro X hP hw hK hc i pins s σ H E I hf st hg
    subst hP hw hK
    obtain ⟨⟨old, he⟩, hit, hne⟩ := st
    obtain ⟨xs, x, hq, hx⟩ := hg
    obtain ⟨its, rv, p, hz⟩ := I.tuple hq
    obtain ⟨u, hu, ru⟩ := rv.get hx
    have hel : e < s.heap.objs.size := Heap.lt_size he
    have hil : it < s.heap.objs.size := by obtain ⟨_, q, _⟩ := hit; exact Heap.lt_size q
    have pT : s.heap.IsTuple a its.toArray := p
    have hlt : i < its.toArray.size := by
      have := (List.getElem?_eq_some_iff.mp hu).1
      simpa using this
    refine wpAny_pyNext_enum_itemD (Draws.tuple (A := X.A.in1) (I.ok.hd hc) it a hait its.toArray) he ⟨hit, pT⟩ hlt hne (by simp [Ne.symm hae, hne]) fun x' h' tk hx' ho hit' hT hsz hk => ?_
    have hux : x' = u := by
      have h1 : its[i]? = some x' := by simpa using hx'
      rw [hu] at h1
      exact (Option.some.inj h1).symm
    subst hux
    refine ⟨_, rfl, wpAny_letOwnedTupleGo_enum (s := { s with heap := h', toks := tk + 1 }) ho fun h'' he' sb => ?_⟩
    have hT2 : h''.get? s.heap.objs.size = some { cls := .type "tuple", data := .seq #[.int i tk, x'] } := (sb.2 _ (Nat.ne_of_gt hel)).trans hT
    have new : ObjOk X.prog X.w (upd H s.heap.objs.size (.tup [.int (i : Nat), x])) h'' s.heap.objs.size (.tup [.int (i : Nat), x]) :=
      ⟨by show 2 ≤ sizeLine; decide, [.int i tk, x'], .cons ⟨_, rfl⟩ (.cons ru .nil), ⟨_, hT2, rfl, _, rfl⟩⟩
    have I1 : Inv X pins σ (upd H s.heap.objs.size (.tup [.int (i : Nat), x])) { s with heap := h'', toks := tk + 1 } :=
      I.turnedNew (ch := [e, it]) (fun b ob hb q => (sb.2 b (fun z => hb (by simp [z]))).trans (hk b ob (fun z => hb (by simp [z])) (fun z => hb (by simp [z])) q)) hf (Nat.le_refl _) new
    refine ⟨.ref s.heap.objs.size, _, I1, rfl, ⟨_, x, rfl, I.hok.fresh (Nat.le_refl _), rfl, fun ys hy => ?_⟩, ⟨⟨x', ?_⟩, hit'.1.at fun o q => (sb.2 it (Ne.symm hne)).trans q, hne⟩, fun b hb => ?_⟩
    · rw [show ys = xs from I.tuple_inj hy hq]
      exact hx
    · have e1 : ((i + 1 : Nat) : Int) = (i : Int) + 1 := by omega
      rw [e1]; exact he'
    · have hb' : b < s.heap.objs.size := by
        have e' : b = e ∨ b = it := by simpa using hb
        rcases e' with z | z
        · rw [z]; exact hel
        · rw [z]; exact hil
      rw [upd_ne (Nat.ne_of_lt hb')]
      exact (hf b hb).1
  done := by
    intro X hP hw hK hc i pins s σ H E I hf st hg
    subst hP hw hK
    obtain ⟨⟨old, he⟩, hit, hne⟩ := st
    obtain ⟨xs, hq, hx⟩ := hg
    obtain ⟨its, rv, p, hz⟩ := I.tuple hq
    obtain ⟨f0, f1, f2, f3, f4, f5⟩ := hf it (by simp)
    have hl := rv.length
    have hz2 : i = its.toArray.size := by rw [List.size_toArray]; omega
    subst hz2
    exact wpAny_pyNext_enum_endD (Draws.tuple (A := X.A.in1) (I.ok.hd hc) it a hait its.toArray) he ⟨hit, show s.heap.IsTuple a its.toArray from p⟩ fun h' eb => ⟨rfl, I.turned (t' := s.toks) (fun b o hb q => eb b o hb q) f0 f1 f3 f4 f5⟩
  self := fun A i s Q E st h => let ⟨⟨_, he⟩, _⟩ := st; wpAny_pyIter_enum he h
def iEnumT (K : PySem.W.Frag) (ta : TA) : TI := fun σ H R => ta σ H fun vs H1 => ∃ a xs, vs = [.ref a] ∧ SqT K H1 a xs ∧ R (IteT K a) H1
theorem pi_enumT {X : Cx} {e : Expr} {ta : TA} {p pos tpos : Pos} {elts : List Expr} {kk : Nat} (hg : Gl X "enumerate") (hm : X.mg "enumerate" = none) (ha : PA X [e] ta) (hs : starEach [e] X.env = [(false, eval e X.env)] := by rfl) :
    PI X (.Tuple elts kk tpos) (.Call (.Name "enumerate" p) [e] [] pos) (iEnumT X.K ta) := by
  refine ⟨fun pins s σ H R I h => ?_⟩
  refine Call_ (ld_blt I hg hm boot_enumerate (PyProof.Rows.callWith_type1 (thn (ha.run pos pins s σ H _ I h) fun us s1 ⟨vs, H1, I1, r1, q1⟩ => ?_) hs rfl))
  obtain ⟨a, xs, ex, hq, q⟩ := q1
  subst ex
  cases r1 with
  | cons r rr =>
    cases rr
    cases r
    obtain ⟨its, rv, p', hz⟩ := I1.tuple hq
    have hlt : a < s1.heap.objs.size := by obtain ⟨_, ho, _⟩ := p'; exact Heap.lt_size ho
    refine call_enumT (show s1.heap.IsTuple a its.toArray from p') fun h' he hit hsz hk => wpAny_pyIter_enum he ?_
    have I2 : Inv X pins σ H1 { s1 with heap := h' } := I1.kept (t' := s1.toks) hk
    refine ⟨s1.heap.objs.size + 1, [s1.heap.objs.size + 1, s1.heap.objs.size], _, _, H1, rfl, I2, turn_enumT a (s1.heap.objs.size + 1) s1.heap.objs.size (Nat.ne_of_lt hlt) (Nat.ne_of_lt (Nat.lt_succ_of_lt hlt)), ⟨⟨.none, he⟩, hit, Nat.succ_ne_self _⟩, fun b hb => ?_, q⟩
    have e' : b = s1.heap.objs.size + 1 ∨ b = s1.heap.objs.size := by simpa using hb
    have hle : s1.heap.objs.size ≤ b := by
      rcases e' with z | z
      · rw [z]; exact Nat.le_add_right _ _
      · rw [z]; exact Nat.le_refl _
    exact I1.fpOk hle (I1.hok.fresh hle)
/-- a loop over enumerate of a tuple -/
theorem for_enumT {K : PySem.W.Frag} {a : Addr} {xs : List V} {g : TG} {tb : TS} {D : Ends} {σ : L2.St} {H : Hp} (Pv : Nat → L2.St → Hp → Prop) (h0 : Pv 0 σ H) (hq : ∀ i σ H, Pv i σ H → SqT K H a xs)
    (hs : ∀ (i : Nat) (x : V) (T : Addr) (σ : L2.St) (H : Hp), xs[i]? = some x → Pv i σ H → H T = none → g (.ref T) σ (upd H T (.tup [.int (i : Nat), x])) fun σ2 H2 => tb { D with nx := Pv (i + 1), ct := Pv (i + 1), bk := D.nx } σ2 H2) (hd : ∀ σ H, Pv xs.length σ H → D.nx σ H) :
    ∃ W : Nat → Nat → L2.St → Hp → Prop, (∃ m, W 0 m σ H) ∧ ∀ i m σ H, W i m σ H →
      ((IteT K a).stop i H ∧ D.nx σ H) ∨ ((IteT K a).go i H ∧ ∃ N : L2.St → Hp → Prop, (∀ σ' H', N σ' H' → ∃ m', m' < m ∧ W (i + 1) m' σ' H') ∧ ∀ v H', (IteT K a).yld i H v H' → g v σ H' fun σ2 H2 => tb { D with nx := N, ct := N, bk := D.nx } σ2 H2) := by
  refine ⟨fun i m σ H => m = xs.length - i ∧ i ≤ xs.length ∧ Pv i σ H, ⟨xs.length, rfl, Nat.zero_le _, h0⟩, ?_⟩
  rintro i m σ H ⟨rfl, hi, p⟩
  have qx := hq i σ H p
  by_cases hlt : i < xs.length
  · have hx : xs[i]? = some xs[i] := List.getElem?_eq_getElem hlt
    refine .inr ⟨⟨xs, _, qx, hx⟩, Pv (i + 1), fun σ' H' p' => ⟨xs.length - (i + 1), by omega, rfl, hlt, p'⟩, fun v H' y => ?_⟩
    obtain ⟨T, x', rfl, hT, rfl, f1⟩ := y
    exact hs i x' T σ H (f1 xs qx) p hT
  · have e : i = xs.length := by omega
    subst e
    exact .inl ⟨⟨xs, qx, rfl⟩, hd σ H p⟩
end EnumT

set_option Elab.async false
set_option linter.all false
set_option maxRecDepth 100000
set_option maxHeartbeats 2000000
/-! sequences that may be a list or a tuple: len, index, enumerate -/
namespace SeqE
open PySem PySem.Spec PyProof.Rows L2
/-- at a a list or a tuple with these items -/
def Sq (H : Hp) (a : Addr) (xs : List V) : Prop := H a = some (.tup xs) ∨ H a = some (.lst xs)
theorem Sq.same {H H' : Hp} {a : Addr} {xs : List V} (h : Sq H a xs) (s : Same H H') : Sq H' a xs := h.elim (fun e => .inl (s _ _ e)) fun e => .inr (s _ _ e)
theorem Sq.upd {H : Hp} {a p : Addr} {o : HO} {xs : List V} (h : Sq H a xs) (hp : H p = none) : Sq (upd H p o) a xs := by
  refine h.elim (fun e => .inl ?_) fun e => .inr ?_ <;> rw [upd_ne (ne_of_none e hp)] <;> exact e
end SeqE

set_option Elab.async false
set_option linter.all false
set_option maxRecDepth 100000
/-! A slot read inside a comprehension: the fragment is named, not read off the inner context. -/
namespace SlotK
open PySem PySem.Spec PyProof.Rows L2 SlX
variable {X : Cx} {e : Expr} {f : Str} {pos : Pos} {ta : TE} {K : PySem.W.Frag}
theorem pe_slK (hK : X.K = K) (he : PE X e ta) (hb : attributeBase e f X.env (eval e X.env) = eval e X.env := by rfl) : PE X (.Attribute e f pos) (tSl K ta f) := by
  subst hK
  exact pe_sl he hb
end SlotK

set_option Elab.async false
set_option linter.all false
set_option maxRecDepth 100000
/-! x //= n for ints, n not 0 -/
namespace AugZ
open PySem PySem.Spec PyProof.Rows L2 MyR
variable {X : Cx}
theorem ip_fdivZ : PIp X .FloorDiv (fun x y H Q => ∃ i j, x = .int i ∧ y = .int j ∧ CDivZ i j ∧ Q (.int (i.fdiv j)) H) := by
  intro pins s σ H x y v u Q I r1 r2 h
  obtain ⟨i, j, e1, e2, hc, q⟩ := h
  subst e1; subst e2
  obtain ⟨t, rfl⟩ := r1
  obtain ⟨t', rfl⟩ := r2
  exact ifloordiv_int hc.1 ⟨.int _, H, I.tok _, ⟨_, rfl⟩, q⟩ (.inl (PyProof.noPylong_of_log2 hc.2))
end AugZ

set_option Elab.async false
set_option linter.all false
set_option maxRecDepth 100000
/-! products of forms: the plain law -/
namespace K49
/-- the entry at a place, 0 behind the end -/
def co (l : List Int) (k : Nat) : Int := l.getD k 0
/-- the entries of a product -/
def cv : List Int → (Nat → Int) → Nat → Int
  | [], _, _ => 0
  | x :: xs, g, k => x * g k + (match k with
    | 0 => 0
    | k + 1 => cv xs g k)
theorem cv_zero (x : Int) (xs : List Int) (g : Nat → Int) : cv (x :: xs) g 0 = x * g 0 := by show x * g 0 + 0 = _; omega
theorem cv_succ (x : Int) (xs : List Int) (g : Nat → Int) (k : Nat) : cv (x :: xs) g (k + 1) = x * g (k + 1) + cv xs g k := rfl
theorem cv_congr {g h : Nat → Int} : ∀ (l : List Int) (k : Nat), (∀ i, i ≤ k → g i = h i) → cv l g k = cv l h k
  | [], _, _ => rfl
  | x :: xs, 0, e => by rw [cv_zero, cv_zero, e 0 (Nat.le_refl _)]
  | x :: xs, k + 1, e => by rw [cv_succ, cv_succ, e (k + 1) (Nat.le_refl _), cv_congr xs k fun i hi => e i (by omega)]
theorem cv_ext {g h : Nat → Int} (l : List Int) (e : ∀ i, g i = h i) (k : Nat) : cv l g k = cv l h k := cv_congr l k fun i _ => e i
theorem cv_add (l : List Int) (g h : Nat → Int) : ∀ k, cv l (fun i => g i + h i) k = cv l g k + cv l h k := by
  induction l with
  | nil => intro k; rfl
  | cons x xs ih =>
    intro k
    cases k with
    | zero => rw [cv_zero, cv_zero, cv_zero, Int.mul_add]
    | succ k => rw [cv_succ, cv_succ, cv_succ, ih, Int.mul_add]; omega
theorem cv_mul (l : List Int) (c : Int) (g : Nat → Int) : ∀ k, cv l (fun i => c * g i) k = c * cv l g k := by
  induction l with
  | nil => intro k; show (0 : Int) = c * 0; rw [Int.mul_zero]
  | cons x xs ih =>
    intro k
    cases k with
    | zero => rw [cv_zero, cv_zero]; rw [← Int.mul_assoc, Int.mul_comm x c, Int.mul_assoc]
    | succ k => rw [cv_succ, cv_succ, ih, Int.mul_add, ← Int.mul_assoc, Int.mul_comm x c, Int.mul_assoc]
theorem cv_zeroF (l : List Int) : ∀ k, cv l (fun _ => 0) k = 0 := by
  induction l with
  | nil => intro k; rfl
  | cons x xs ih =>
    intro k
    cases k with
    | zero => rw [cv_zero, Int.mul_zero]
    | succ k => rw [cv_succ, ih, Int.mul_zero]; rfl
/-- what is moved by one place -/
def sh (g : Nat → Int) : Nat → Int
  | 0 => 0
  | k + 1 => g k
theorem cv_sh (l : List Int) (g : Nat → Int) : ∀ k, cv l (sh g) k = sh (cv l g) k := by
  induction l with
  | nil => intro k; cases k <;> rfl
  | cons x xs ih =>
    intro k
    cases k with
    | zero => rw [cv_zero]; show x * 0 = 0; rw [Int.mul_zero]
    | succ k =>
      rw [cv_succ, ih]
      show x * g k + sh (cv xs g) k = cv (x :: xs) g k
      cases k with
      | zero => rw [cv_zero]; show x * g 0 + 0 = x * g 0; omega
      | succ k => rw [cv_succ] <;> rfl
theorem cv_cons (x : Int) (xs : List Int) (g : Nat → Int) (k : Nat) : cv (x :: xs) g k = x * g k + sh (cv xs g) k := by
  cases k with
  | zero => rw [cv_zero]; show x * g 0 = x * g 0 + 0; omega
  | succ k => rw [cv_succ] <;> rfl
theorem co_cons (x : Int) (xs : List Int) (k : Nat) : co (x :: xs) k = (if k = 0 then x else 0) + sh (co xs) k := by
  cases k with
  | zero => show x = x + 0; omega
  | succ k =>
    show co xs k = (if k + 1 = 0 then x else 0) + co xs k
    rw [if_neg (by omega)]
    omega
/-- a constant times -/
theorem cv_one (l : List Int) : ∀ k, cv l (fun i => if i = 0 then 1 else 0) k = co l k := by
  induction l with
  | nil => intro k; rfl
  | cons x xs ih =>
    intro k
    cases k with
    | zero => rw [cv_zero, if_pos rfl, Int.mul_one]; rfl
    | succ k => rw [cv_succ, if_neg (by omega), Int.mul_zero, ih]; show 0 + co xs k = co xs k; omega
theorem cv_delta (l : List Int) (x : Int) (k : Nat) : cv l (fun i => if i = 0 then x else 0) k = x * co l k := by
  rw [← cv_one l k, ← cv_mul]
  refine cv_ext l (fun i => ?_) k
  by_cases h : i = 0
  · rw [if_pos h, if_pos h, Int.mul_one]
  · rw [if_neg h, if_neg h, Int.mul_zero]
theorem cv_comm (l m : List Int) : ∀ k, cv l (co m) k = cv m (co l) k := by
  induction l with
  | nil =>
    intro k
    rw [show cv m (co []) k = cv m (fun _ => 0) k from cv_ext m (fun i => rfl) k, cv_zeroF]
    rfl
  | cons x xs ih =>
    intro k
    rw [cv_cons, cv_ext m (h := fun i => (if i = 0 then x else 0) + sh (co xs) i) (fun i => co_cons x xs i), cv_add, cv_delta, cv_sh]
    congr 1
    cases k with
    | zero => rfl
    | succ k => exact ih k
theorem cv_far {g : Nat → Int} {b : Nat} (hb : 1 ≤ b) (hg : ∀ i, b ≤ i → g i = 0) : ∀ (l : List Int) (k : Nat), l.length + b ≤ k + 1 → cv l g k = 0
  | [], _, _ => rfl
  | x :: xs, 0, h => by rw [List.length_cons] at h; omega
  | x :: xs, k + 1, h => by
    rw [List.length_cons] at h
    rw [cv_succ, hg _ (by omega), Int.mul_zero, cv_far hb hg xs k (by omega)]
    rfl
/-- the first n values -/
def tb (n : Nat) (f : Nat → Int) : List Int := (List.range n).map f
theorem tb_len (n : Nat) (f : Nat → Int) : (tb n f).length = n := by
  unfold tb
  rw [List.length_map, List.length_range]
theorem co_tb {n : Nat} {f : Nat → Int} (k : Nat) : co (tb n f) k = if k < n then f k else 0 := by
  unfold co tb
  rw [List.getD_eq_getElem?_getD, List.getElem?_map]
  by_cases h : k < n
  · rw [List.getElem?_range h, if_pos h]
    rfl
  · rw [List.getElem?_eq_none (by rw [List.length_range]; omega), if_neg h]
    rfl
theorem co_far {l : List Int} {i : Nat} (h : l.length ≤ i) : co l i = 0 := by
  unfold co
  rw [List.getD_eq_getElem?_getD, List.getElem?_eq_none h]
  rfl
theorem co_get {l : List Int} {i : Nat} (h : i < l.length) : co l i = l[i] := by
  unfold co
  rw [List.getD_eq_getElem?_getD, List.getElem?_eq_getElem h]
  rfl
theorem co_inj {l m : List Int} (hl : l.length = m.length) (h : ∀ i, co l i = co m i) : l = m := by
  refine List.ext_getElem hl fun i h1 h2 => ?_
  rw [← co_get h1, ← co_get h2, h]
theorem tb_co (l : List Int) : tb l.length (co l) = l := co_inj (tb_len _ _) fun i => by
  rw [co_tb]
  split
  · rfl
  · exact (co_far (by omega)).symm
/-- the product of two forms -/
def ml (l m : List Int) : List Int := tb (l.length + m.length - 1) (cv l (co m))
theorem ml_len (l m : List Int) : (ml l m).length = l.length + m.length - 1 := tb_len _ _
theorem co_ml {l m : List Int} (hm : m ≠ []) (k : Nat) : co (ml l m) k = cv l (co m) k := by
  unfold ml
  rw [co_tb]
  by_cases h : k < l.length + m.length - 1
  · rw [if_pos h]
  · rw [if_neg h]
    have h1 : 0 < m.length := List.length_pos_iff.mpr hm
    exact (cv_far (b := m.length) (by omega) (fun i hi => co_far hi) l k (by omega)).symm
theorem ml_comm (l m : List Int) : ml l m = ml m l := by
  unfold ml
  rw [Nat.add_comm]
  unfold tb
  exact List.map_congr_left fun k _ => cv_comm l m k
theorem ml_ne {l m : List Int} (hl : l ≠ []) (hm : m ≠ []) : ml l m ≠ [] := by
  intro e
  have h := ml_len l m
  rw [e] at h
  have h1 : 0 < m.length := List.length_pos_iff.mpr hm
  have h2 : 0 < l.length := List.length_pos_iff.mpr hl
  have : 0 = l.length + m.length - 1 := h
  omega
/-- entry by entry -/
def pl (l m : List Int) : List Int := List.zipWith (· + ·) l m
theorem pl_len {l m : List Int} (h : l.length = m.length) : (pl l m).length = l.length := by
  unfold pl
  rw [List.length_zipWith, h, Nat.min_self]
end K49

set_option Elab.async false
set_option linter.all false
set_option maxRecDepth 100000
/-! the contents of forms -/
namespace K49
structure Prm (p : Nat) : Prop where
  gt : 1 < p
  pr : ∀ a b : Nat, p ∣ a * b → p ∣ a ∨ p ∣ b
theorem Prm.int {p : Nat} (h : Prm p) {x y : Int} (d : (p : Int) ∣ x * y) : (p : Int) ∣ x ∨ (p : Int) ∣ y := by
  have e := Int.natAbs_dvd_natAbs.mpr d
  rw [Int.natAbs_mul] at e
  rcases h.pr _ _ e with e | e
  · exact .inl (Int.natAbs_dvd_natAbs.mp e)
  · exact .inr (Int.natAbs_dvd_natAbs.mp e)
/-- the greatest common divisor of all -/
def cont : List Int → Nat
  | [] => 0
  | x :: xs => Nat.gcd x.natAbs (cont xs)
theorem cont_dvd : ∀ (l : List Int) (x : Int), x ∈ l → (cont l : Int) ∣ x
  | y :: ys, x, h => by
    rcases List.mem_cons.mp h with e | e
    · rw [e]
      exact Int.natAbs_dvd_natAbs.mp (by show Nat.gcd _ _ ∣ _; exact Nat.gcd_dvd_left _ _)
    · have := cont_dvd ys x e
      exact Int.dvd_trans (Int.natAbs_dvd_natAbs.mp (by show Nat.gcd _ _ ∣ cont ys; exact Nat.gcd_dvd_right _ _)) this
theorem cont_zero {l : List Int} (h : cont l = 0) : ∀ x ∈ l, x = 0 := fun x hx => by
  have := cont_dvd l x hx
  rw [h] at this
  exact Int.zero_dvd.mp this
theorem co_mem {l : List Int} {k : Nat} : co l k = 0 ∨ co l k ∈ l := by
  by_cases h : k < l.length
  · rw [co_get h]
    exact .inr (List.getElem_mem h)
  · exact .inl (co_far (by omega))
theorem co_map (c : Int) (l : List Int) (k : Nat) : co (l.map (c * ·)) k = c * co l k := by
  by_cases h : k < l.length
  · rw [co_get (by rw [List.length_map]; exact h), co_get h, List.getElem_map]
  · rw [co_far (by rw [List.length_map]; omega), co_far (by omega), Int.mul_zero]
end K49

set_option Elab.async false
set_option linter.all false
set_option maxRecDepth 100000
set_option maxHeartbeats 4000000
namespace K49
open PySem PySem.Spec PyProof.Rows L2 SlX OwnR OwnF
theorem hu64 {k : Nat} {A : Around} (hr : Room k A) : A.units + 64 < cLine := hr.units
theorem same_upd0 {H : Hp} {p : Addr} {o : HO} (h : H p = none) : Same H (upd H p o) := fun b x e => by
  rw [upd_ne (ne_of_none e h)]
  exact e
def topS (i : Nat) : Stmt := PySem.Challenge.pw_sourceforms_k49_whole_forms_over_primes.main.body.getD i (.Pass ⟨0, 0, 0, 0⟩)
abbrev FnM (K : PySem.W.Frag) (x q : Str) (st : Stmt) (f : Addr) (fd : FuncData) : Prop := FunD K x q (defArgs st) (defBody st) (defScope st) [] [] f fd
abbrev FnP (K : PySem.W.Frag) (x : Str) (st : Stmt) (f : Addr) (fd : FuncData) : Prop := FunD K x x (defArgs st) (defBody st) (defScope st) [] [] f fd
abbrev s_is_whole : Stmt := topS 11
abbrev N_is_whole : List Str := ["value"]
theorem sc_is_whole : FnScope N_is_whole ["value"] (defScope s_is_whole) := ⟨rfl, rfl, rfl, by decide +kernel, rfl, by decide +kernel, by decide +kernel⟩
abbrev s_is_short : Stmt := topS 12
abbrev N_is_short : List Str := ["value"]
theorem sc_is_short : FnScope N_is_short ["value"] (defScope s_is_short) := ⟨rfl, rfl, rfl, by decide +kernel, rfl, by decide +kernel, by decide +kernel⟩
abbrev s_are_short : Stmt := topS 14
abbrev N_are_short : List Str := ["value", "entry"]
theorem sc_are_short : FnScope N_are_short ["value"] (defScope s_are_short) := ⟨rfl, rfl, rfl, by decide +kernel, rfl, by decide +kernel, by decide +kernel⟩
abbrev s_product_in : Stmt := topS 21
abbrev N_product_in : List Str := ["one", "other"]
theorem sc_product_in : FnScope N_product_in ["one", "other"] (defScope s_product_in) := ⟨rfl, rfl, rfl, by decide +kernel, rfl, by decide +kernel, by decide +kernel⟩
abbrev s_joined_entries : Stmt := topS 22
abbrev N_joined_entries : List Str := ["one", "other", "found", "place", "at"]
theorem sc_joined_entries : FnScope N_joined_entries ["one", "other"] (defScope s_joined_entries) := ⟨rfl, rfl, rfl, by decide +kernel, rfl, by decide +kernel, by decide +kernel⟩
abbrev s_changed_in : Stmt := topS 25
abbrev N_changed_in : List Str := ["entries", "table", "found", "power", "entry", "longer", "first", "second"]
theorem sc_changed_in : FnScope N_changed_in ["entries", "table"] (defScope s_changed_in) := ⟨rfl, rfl, rfl, by decide +kernel, rfl, by decide +kernel, by decide +kernel⟩
abbrev s_are_entries : Stmt := topS 28
abbrev N_are_entries : List Str := ["value"]
theorem sc_are_entries : FnScope N_are_entries ["value"] (defScope s_are_entries) := ⟨rfl, rfl, rfl, by decide +kernel, rfl, by decide +kernel, by decide +kernel⟩
abbrev s_require_form : Stmt := topS 31
abbrev N_require_form : List Str := ["value"]
theorem sc_require_form : FnScope N_require_form ["value"] (defScope s_require_form) := ⟨rfl, rfl, rfl, by decide +kernel, rfl, by decide +kernel, by decide +kernel⟩
abbrev s_require_prime : Stmt := topS 36
abbrev N_require_prime : List Str := ["value"]
theorem sc_require_prime : FnScope N_require_prime ["value"] (defScope s_require_prime) := ⟨rfl, rfl, rfl, by decide +kernel, rfl, by decide +kernel, by decide +kernel⟩
abbrev s_undone_in : Stmt := topS 37
abbrev N_undone_in : List Str := ["prime", "number", "found", "power", "left"]
theorem sc_undone_in : FnScope N_undone_in ["prime", "number"] (defScope s_undone_in) := ⟨rfl, rfl, rfl, by decide +kernel, rfl, by decide +kernel, by decide +kernel⟩
abbrev s_modulo : Stmt := topS 38
abbrev N_modulo : List Str := ["prime", "numbers", "number"]
theorem sc_modulo : FnScope N_modulo ["prime", "numbers"] (defScope s_modulo) := ⟨rfl, rfl, rfl, by decide +kernel, rfl, by decide +kernel, by decide +kernel⟩
abbrev s_plain_row : Stmt := topS 39
abbrev N_plain_row : List Str := ["prime", "numbers", "others", "number", "factor"]
theorem sc_plain_row : FnScope N_plain_row ["prime", "numbers"] (defScope s_plain_row) := ⟨rfl, rfl, rfl, by decide +kernel, rfl, by decide +kernel, by decide +kernel⟩
abbrev s_determinant_in : Stmt := topS 40
abbrev N_determinant_in : List Str := ["table"]
theorem sc_determinant_in : FnScope N_determinant_in ["table"] (defScope s_determinant_in) := ⟨rfl, rfl, rfl, by decide +kernel, rfl, by decide +kernel, by decide +kernel⟩
abbrev s_is_prime_table : Stmt := topS 41
abbrev N_is_prime_table : List Str := ["prime", "value", "row", "one"]
theorem sc_is_prime_table : FnScope N_is_prime_table ["prime", "value"] (defScope s_is_prime_table) := ⟨rfl, rfl, rfl, by decide +kernel, rfl, by decide +kernel, by decide +kernel⟩
abbrev s_require_prime_table : Stmt := topS 42
abbrev N_require_prime_table : List Str := ["prime", "value"]
theorem sc_require_prime_table : FnScope N_require_prime_table ["prime", "value"] (defScope s_require_prime_table) := ⟨rfl, rfl, rfl, by decide +kernel, rfl, by decide +kernel, by decide +kernel⟩
abbrev s_value_modulo : Stmt := topS 44
abbrev N_value_modulo : List Str := ["form", "x", "y", "found", "power", "entry"]
theorem sc_value_modulo : FnScope N_value_modulo ["form", "x", "y"] (defScope s_value_modulo) := ⟨rfl, rfl, rfl, by decide +kernel, rfl, by decide +kernel, by decide +kernel⟩
abbrev s_changed_modulo : Stmt := topS 45
abbrev N_changed_modulo : List Str := ["form", "table", "rows", "row"]
theorem sc_changed_modulo : FnScope N_changed_modulo ["form", "table"] (defScope s_changed_modulo) := ⟨rfl, rfl, rfl, by decide +kernel, rfl, by decide +kernel, by decide +kernel⟩
abbrev s_law_dice : Stmt := topS 47
abbrev N_law_dice : List Str := ["_law_script", "_law_spot", "_law_cell", "_law_left"]
theorem sc_law_dice : FnScope N_law_dice ["_law_script", "_law_spot"] (defScope s_law_dice) := ⟨rfl, rfl, rfl, by decide +kernel, rfl, by decide +kernel, by decide +kernel⟩
abbrev s_law_roll : Stmt := topS 48
abbrev N_law_roll : List Str := ["_law_dice_here", "_law_total", "_law_found", "_law_one", "_law_two"]
theorem sc_law_roll : FnScope N_law_roll ["_law_dice_here", "_law_total"] (defScope s_law_roll) := ⟨rfl, rfl, rfl, by decide +kernel, rfl, by decide +kernel, by decide +kernel⟩
abbrev s_law_pick : Stmt := topS 49
abbrev N_law_pick : List Str := ["_law_dice_here", "_law_items"]
theorem sc_law_pick : FnScope N_law_pick ["_law_dice_here", "_law_items"] (defScope s_law_pick) := ⟨rfl, rfl, rfl, by decide +kernel, rfl, by decide +kernel, by decide +kernel⟩
abbrev s_law_near : Stmt := topS 50
abbrev N_law_near : List Str := ["_law_dice_here", "_law_most"]
theorem sc_law_near : FnScope N_law_near ["_law_dice_here", "_law_most"] (defScope s_law_near) := ⟨rfl, rfl, rfl, by decide +kernel, rfl, by decide +kernel, by decide +kernel⟩
abbrev s_law_gcd : Stmt := topS 51
abbrev N_law_gcd : List Str := ["_law_one", "_law_other"]
theorem sc_law_gcd : FnScope N_law_gcd ["_law_one", "_law_other"] (defScope s_law_gcd) := ⟨rfl, rfl, rfl, by decide +kernel, rfl, by decide +kernel, by decide +kernel⟩
abbrev s_law_shared : Stmt := topS 52
abbrev N_law_shared : List Str := ["_law_numbers", "_law_found", "_law_number"]
theorem sc_law_shared : FnScope N_law_shared ["_law_numbers"] (defScope s_law_shared) := ⟨rfl, rfl, rfl, by decide +kernel, rfl, by decide +kernel, by decide +kernel⟩
abbrev s_law_plus : Stmt := topS 53
abbrev N_law_plus : List Str := ["_law_one", "_law_other", "_law_first", "_law_second"]
theorem sc_law_plus : FnScope N_law_plus ["_law_one", "_law_other"] (defScope s_law_plus) := ⟨rfl, rfl, rfl, by decide +kernel, rfl, by decide +kernel, by decide +kernel⟩
abbrev s_law_scaled : Stmt := topS 54
abbrev N_law_scaled : List Str := ["_law_form_here", "_law_factor", "_law_entry"]
theorem sc_law_scaled : FnScope N_law_scaled ["_law_form_here", "_law_factor"] (defScope s_law_scaled) := ⟨rfl, rfl, rfl, by decide +kernel, rfl, by decide +kernel, by decide +kernel⟩
abbrev s_law_product : Stmt := topS 55
abbrev N_law_product : List Str := ["_law_one", "_law_other", "_law_found", "_law_place", "_law_at", "_law_first", "_law_second"]
theorem sc_law_product : FnScope N_law_product ["_law_one", "_law_other"] (defScope s_law_product) := ⟨rfl, rfl, rfl, by decide +kernel, rfl, by decide +kernel, by decide +kernel⟩
abbrev s_law_all_product : Stmt := topS 56
abbrev N_law_all_product : List Str := ["_law_forms", "_law_found", "_law_form_here"]
theorem sc_law_all_product : FnScope N_law_all_product ["_law_forms"] (defScope s_law_all_product) := ⟨rfl, rfl, rfl, by decide +kernel, rfl, by decide +kernel, by decide +kernel⟩
abbrev s_law_power : Stmt := topS 57
abbrev N_law_power : List Str := ["_law_pair", "_law_times", "_law_found", "_law_turn"]
theorem sc_law_power : FnScope N_law_power ["_law_pair", "_law_times"] (defScope s_law_power) := ⟨rfl, rfl, rfl, by decide +kernel, rfl, by decide +kernel, by decide +kernel⟩
abbrev s_law_changed : Stmt := topS 58
abbrev N_law_changed : List Str := ["_law_form_here", "_law_table", "_law_found", "_law_entry", "_law_at", "_law_piece"]
theorem sc_law_changed : FnScope N_law_changed ["_law_form_here", "_law_table"] (defScope s_law_changed) := ⟨rfl, rfl, rfl, by decide +kernel, rfl, by decide +kernel, by decide +kernel⟩
abbrev s_law_value : Stmt := topS 59
abbrev N_law_value : List Str := ["_law_form_here", "_law_x", "_law_y", "_law_found", "_law_power_here", "_law_entry"]
theorem sc_law_value : FnScope N_law_value ["_law_form_here", "_law_x", "_law_y"] (defScope s_law_value) := ⟨rfl, rfl, rfl, by decide +kernel, rfl, by decide +kernel, by decide +kernel⟩
abbrev s_law_plain : Stmt := topS 60
abbrev N_law_plain : List Str := ["_law_form_here", "_law_part", "_law_first", "_law_entry"]
theorem sc_law_plain : FnScope N_law_plain ["_law_form_here"] (defScope s_law_plain) := ⟨rfl, rfl, rfl, by decide +kernel, rfl, by decide +kernel, by decide +kernel⟩
abbrev s_law_line : Stmt := topS 61
abbrev N_law_line : List Str := ["_law_point_here"]
theorem sc_law_line : FnScope N_law_line ["_law_point_here"] (defScope s_law_line) := ⟨rfl, rfl, rfl, by decide +kernel, rfl, by decide +kernel, by decide +kernel⟩
abbrev s_law_point : Stmt := topS 62
abbrev N_law_point : List Str := ["_law_dice_here", "_law_most", "_law_one", "_law_other"]
theorem sc_law_point : FnScope N_law_point ["_law_dice_here", "_law_most"] (defScope s_law_point) := ⟨rfl, rfl, rfl, by decide +kernel, rfl, by decide +kernel, by decide +kernel⟩
abbrev s_law_small_form : Stmt := topS 63
abbrev N_law_small_form : List Str := ["_law_dice_here", "_law_degree", "_law_most", "_law_place"]
theorem sc_law_small_form : FnScope N_law_small_form ["_law_dice_here", "_law_degree", "_law_most"] (defScope s_law_small_form) := ⟨rfl, rfl, rfl, by decide +kernel, rfl, by decide +kernel, by decide +kernel⟩
abbrev s_law_form : Stmt := topS 64
abbrev N_law_form : List Str := ["_law_dice_here", "_law_degree", "_law_way", "_law_turn", "_law_line_here", "_law_often", "_law_found", "_law_place"]
theorem sc_law_form : FnScope N_law_form ["_law_dice_here", "_law_degree"] (defScope s_law_form) := ⟨rfl, rfl, rfl, by decide +kernel, rfl, by decide +kernel, by decide +kernel⟩
abbrev s_law_joined : Stmt := topS 65
abbrev N_law_joined : List Str := ["_law_one", "_law_other", "_law_rows", "_law_first", "_law_second", "_law_at"]
theorem sc_law_joined : FnScope N_law_joined ["_law_one", "_law_other"] (defScope s_law_joined) := ⟨rfl, rfl, rfl, by decide +kernel, rfl, by decide +kernel, by decide +kernel⟩
abbrev s_law_det : Stmt := topS 66
abbrev N_law_det : List Str := ["_law_table"]
theorem sc_law_det : FnScope N_law_det ["_law_table"] (defScope s_law_det) := ⟨rfl, rfl, rfl, by decide +kernel, rfl, by decide +kernel, by decide +kernel⟩
abbrev s_law_left_by : Stmt := topS 67
abbrev N_law_left_by : List Str := ["_law_entries", "_law_prime", "_law_entry"]
theorem sc_law_left_by : FnScope N_law_left_by ["_law_entries", "_law_prime"] (defScope s_law_left_by) := ⟨rfl, rfl, rfl, by decide +kernel, rfl, by decide +kernel, by decide +kernel⟩
abbrev s_law_undo_by : Stmt := topS 68
abbrev N_law_undo_by : List Str := ["_law_number", "_law_prime", "_law_found", "_law_base", "_law_left"]
theorem sc_law_undo_by : FnScope N_law_undo_by ["_law_number", "_law_prime"] (defScope s_law_undo_by) := ⟨rfl, rfl, rfl, by decide +kernel, rfl, by decide +kernel, by decide +kernel⟩
abbrev s_law_first_one : Stmt := topS 69
abbrev N_law_first_one : List Str := ["_law_entries", "_law_prime", "_law_some", "_law_entry"]
theorem sc_law_first_one : FnScope N_law_first_one ["_law_entries", "_law_prime"] (defScope s_law_first_one) := ⟨rfl, rfl, rfl, by decide +kernel, rfl, by decide +kernel, by decide +kernel⟩
abbrev s_law_some_prime : Stmt := topS 70
abbrev N_law_some_prime : List Str := ["_law_dice_here"]
theorem sc_law_some_prime : FnScope N_law_some_prime ["_law_dice_here"] (defScope s_law_some_prime) := ⟨rfl, rfl, rfl, by decide +kernel, rfl, by decide +kernel, by decide +kernel⟩
abbrev s_law_prime_table : Stmt := topS 71
abbrev N_law_prime_table : List Str := ["_law_dice_here", "_law_prime", "_law_most", "_law_found", "_law_row"]
theorem sc_law_prime_table : FnScope N_law_prime_table ["_law_dice_here", "_law_prime"] (defScope s_law_prime_table) := ⟨rfl, rfl, rfl, by decide +kernel, rfl, by decide +kernel, by decide +kernel⟩
abbrev s_law_is_told : Stmt := topS 72
abbrev N_law_is_told : List Str := ["_law_form_here", "_law_prime", "_law_entries", "_law_due", "_law_text", "_law_entry"]
theorem sc_law_is_told : FnScope N_law_is_told ["_law_form_here", "_law_prime", "_law_entries"] (defScope s_law_is_told) := ⟨rfl, rfl, rfl, by decide +kernel, rfl, by decide +kernel, by decide +kernel⟩
abbrev s_law_right : Stmt := topS 73
abbrev N_law_right : List Str := ["_law_dice_here", "_law_prime", "_law_one", "_law_other", "_law_first", "_law_second", "_law_both", "_law_x", "_law_y", "_law_here", "_law_there", "_law_table", "_law_more", "_law_told"]
theorem sc_law_right : FnScope N_law_right ["_law_dice_here"] (defScope s_law_right) := ⟨rfl, rfl, rfl, by decide +kernel, rfl, by decide +kernel, by decide +kernel⟩
abbrev s_law : Stmt := topS 74
abbrev N_law : List Str := ["_law_script", "_law_spot", "_law_small", "_law_large", "_law_told"]
theorem sc_law : FnScope N_law ["_law_script"] (defScope s_law) := ⟨rfl, rfl, rfl, by decide +kernel, rfl, by decide +kernel, by decide +kernel⟩
abbrev s_Told_init : Stmt := inClass (topS 27) 1
abbrev s_Form_init : Stmt := inClass (topS 29) 1
abbrev N_Form_init : List Str := ["self", "entries"]
theorem sc_Form_init : FnScope N_Form_init ["self", "entries"] (defScope s_Form_init) := ⟨rfl, rfl, rfl, by decide +kernel, rfl, by decide +kernel, by decide +kernel⟩
abbrev s_Form_entries : Stmt := inClass (topS 29) 4
abbrev N_Form_entries : List Str := ["self"]
theorem sc_Form_entries : FnScope N_Form_entries ["self"] (defScope s_Form_entries) := ⟨rfl, rfl, rfl, by decide +kernel, rfl, by decide +kernel, by decide +kernel⟩
abbrev s_Form_degree : Stmt := inClass (topS 29) 5
abbrev N_Form_degree : List Str := ["self"]
theorem sc_Form_degree : FnScope N_Form_degree ["self"] (defScope s_Form_degree) := ⟨rfl, rfl, rfl, by decide +kernel, rfl, by decide +kernel, by decide +kernel⟩
abbrev s_PrimeForm_init : Stmt := inClass (topS 43) 1
abbrev N_PrimeForm_init : List Str := ["self", "prime", "entries", "entry"]
theorem sc_PrimeForm_init : FnScope N_PrimeForm_init ["self", "prime", "entries"] (defScope s_PrimeForm_init) := ⟨rfl, rfl, rfl, by decide +kernel, rfl, by decide +kernel, by decide +kernel⟩
abbrev s_PrimeForm_of_form : Stmt := inClass (topS 43) 2
abbrev N_PrimeForm_of_form : List Str := ["cls", "form", "prime"]
theorem sc_PrimeForm_of_form : FnScope N_PrimeForm_of_form ["cls", "form", "prime"] (defScope s_PrimeForm_of_form) := ⟨rfl, rfl, rfl, by decide +kernel, rfl, by decide +kernel, by decide +kernel⟩
abbrev s_PrimeForm_prime : Stmt := inClass (topS 43) 3
abbrev N_PrimeForm_prime : List Str := ["self"]
theorem sc_PrimeForm_prime : FnScope N_PrimeForm_prime ["self"] (defScope s_PrimeForm_prime) := ⟨rfl, rfl, rfl, by decide +kernel, rfl, by decide +kernel, by decide +kernel⟩
abbrev s_PrimeForm_entries : Stmt := inClass (topS 43) 4
abbrev N_PrimeForm_entries : List Str := ["self"]
theorem sc_PrimeForm_entries : FnScope N_PrimeForm_entries ["self"] (defScope s_PrimeForm_entries) := ⟨rfl, rfl, rfl, by decide +kernel, rfl, by decide +kernel, by decide +kernel⟩
abbrev s_PrimeForm_degree : Stmt := inClass (topS 43) 5
abbrev N_PrimeForm_degree : List Str := ["self"]
theorem sc_PrimeForm_degree : FnScope N_PrimeForm_degree ["self"] (defScope s_PrimeForm_degree) := ⟨rfl, rfl, rfl, by decide +kernel, rfl, by decide +kernel, by decide +kernel⟩
abbrev s_PrimeForm_is_zero : Stmt := inClass (topS 43) 6
abbrev N_PrimeForm_is_zero : List Str := ["self"]
theorem sc_PrimeForm_is_zero : FnScope N_PrimeForm_is_zero ["self"] (defScope s_PrimeForm_is_zero) := ⟨rfl, rfl, rfl, by decide +kernel, rfl, by decide +kernel, by decide +kernel⟩
abbrev s_PrimeForm_plain : Stmt := inClass (topS 43) 7
abbrev N_PrimeForm_plain : List Str := ["self"]
theorem sc_PrimeForm_plain : FnScope N_PrimeForm_plain ["self"] (defScope s_PrimeForm_plain) := ⟨rfl, rfl, rfl, by decide +kernel, rfl, by decide +kernel, by decide +kernel⟩
abbrev s_PrimeForm_value : Stmt := inClass (topS 43) 8
abbrev N_PrimeForm_value : List Str := ["self", "x", "y", "number"]
theorem sc_PrimeForm_value : FnScope N_PrimeForm_value ["self", "x", "y"] (defScope s_PrimeForm_value) := ⟨rfl, rfl, rfl, by decide +kernel, rfl, by decide +kernel, by decide +kernel⟩
abbrev s_PrimeForm_changed : Stmt := inClass (topS 43) 9
abbrev N_PrimeForm_changed : List Str := ["self", "table"]
theorem sc_PrimeForm_changed : FnScope N_PrimeForm_changed ["self", "table"] (defScope s_PrimeForm_changed) := ⟨rfl, rfl, rfl, by decide +kernel, rfl, by decide +kernel, by decide +kernel⟩
abbrev s_PrimeForm_mul : Stmt := inClass (topS 43) 14
abbrev N_PrimeForm_mul : List Str := ["self", "other"]
theorem sc_PrimeForm_mul : FnScope N_PrimeForm_mul ["self", "other"] (defScope s_PrimeForm_mul) := ⟨rfl, rfl, rfl, by decide +kernel, rfl, by decide +kernel, by decide +kernel⟩
abbrev s_PrimeForm_eq : Stmt := inClass (topS 43) 15
abbrev N_PrimeForm_eq : List Str := ["self", "other"]
theorem sc_PrimeForm_eq : FnScope N_PrimeForm_eq ["self", "other"] (defScope s_PrimeForm_eq) := ⟨rfl, rfl, rfl, by decide +kernel, rfl, by decide +kernel, by decide +kernel⟩
abbrev s_PrimeForm_str : Stmt := inClass (topS 43) 16
abbrev N_PrimeForm_str : List Str := ["self", "entries", "entry"]
theorem sc_PrimeForm_str : FnScope N_PrimeForm_str ["self"] (defScope s_PrimeForm_str) := ⟨rfl, rfl, rfl, by decide +kernel, rfl, by decide +kernel, by decide +kernel⟩
/-- where the defs stand, what the names of the module are -/
structure Facts (K : PySem.W.Frag) (mg : Str → Option Value) where
  f_is_whole : Addr
  fd_is_whole : FuncData
  F_is_whole : FnP K "is_whole" s_is_whole f_is_whole fd_is_whole
  g_is_whole : mg "is_whole" = some (.ref f_is_whole)
  b_is_whole : Binds K fd_is_whole ["value"] []
  f_is_short : Addr
  fd_is_short : FuncData
  F_is_short : FnP K "is_short" s_is_short f_is_short fd_is_short
  g_is_short : mg "is_short" = some (.ref f_is_short)
  b_is_short : Binds K fd_is_short ["value"] []
  f_are_short : Addr
  fd_are_short : FuncData
  F_are_short : FnP K "are_short" s_are_short f_are_short fd_are_short
  g_are_short : mg "are_short" = some (.ref f_are_short)
  b_are_short : Binds K fd_are_short ["value"] []
  f_product_in : Addr
  fd_product_in : FuncData
  F_product_in : FnP K "product_in" s_product_in f_product_in fd_product_in
  g_product_in : mg "product_in" = some (.ref f_product_in)
  b_product_in : Binds K fd_product_in ["one", "other"] []
  f_joined_entries : Addr
  fd_joined_entries : FuncData
  F_joined_entries : FnP K "joined_entries" s_joined_entries f_joined_entries fd_joined_entries
  g_joined_entries : mg "joined_entries" = some (.ref f_joined_entries)
  b_joined_entries : Binds K fd_joined_entries ["one", "other"] []
  f_changed_in : Addr
  fd_changed_in : FuncData
  F_changed_in : FnP K "changed_in" s_changed_in f_changed_in fd_changed_in
  g_changed_in : mg "changed_in" = some (.ref f_changed_in)
  b_changed_in : Binds K fd_changed_in ["entries", "table"] []
  f_are_entries : Addr
  fd_are_entries : FuncData
  F_are_entries : FnP K "are_entries" s_are_entries f_are_entries fd_are_entries
  g_are_entries : mg "are_entries" = some (.ref f_are_entries)
  b_are_entries : Binds K fd_are_entries ["value"] []
  f_require_form : Addr
  fd_require_form : FuncData
  F_require_form : FnP K "require_form" s_require_form f_require_form fd_require_form
  g_require_form : mg "require_form" = some (.ref f_require_form)
  b_require_form : Binds K fd_require_form ["value"] []
  f_require_prime : Addr
  fd_require_prime : FuncData
  F_require_prime : FnP K "require_prime" s_require_prime f_require_prime fd_require_prime
  g_require_prime : mg "require_prime" = some (.ref f_require_prime)
  b_require_prime : Binds K fd_require_prime ["value"] []
  f_undone_in : Addr
  fd_undone_in : FuncData
  F_undone_in : FnP K "undone_in" s_undone_in f_undone_in fd_undone_in
  g_undone_in : mg "undone_in" = some (.ref f_undone_in)
  b_undone_in : Binds K fd_undone_in ["prime", "number"] []
  f_modulo : Addr
  fd_modulo : FuncData
  F_modulo : FnP K "modulo" s_modulo f_modulo fd_modulo
  g_modulo : mg "modulo" = some (.ref f_modulo)
  b_modulo : Binds K fd_modulo ["prime", "numbers"] []
  f_plain_row : Addr
  fd_plain_row : FuncData
  F_plain_row : FnP K "plain_row" s_plain_row f_plain_row fd_plain_row
  g_plain_row : mg "plain_row" = some (.ref f_plain_row)
  b_plain_row : Binds K fd_plain_row ["prime", "numbers"] []
  f_determinant_in : Addr
  fd_determinant_in : FuncData
  F_determinant_in : FnP K "determinant_in" s_determinant_in f_determinant_in fd_determinant_in
  g_determinant_in : mg "determinant_in" = some (.ref f_determinant_in)
  b_determinant_in : Binds K fd_determinant_in ["table"] []
  f_is_prime_table : Addr
  fd_is_prime_table : FuncData
  F_is_prime_table : FnP K "is_prime_table" s_is_prime_table f_is_prime_table fd_is_prime_table
  g_is_prime_table : mg "is_prime_table" = some (.ref f_is_prime_table)
  b_is_prime_table : Binds K fd_is_prime_table ["prime", "value"] []
  f_require_prime_table : Addr
  fd_require_prime_table : FuncData
  F_require_prime_table : FnP K "require_prime_table" s_require_prime_table f_require_prime_table fd_require_prime_table
  g_require_prime_table : mg "require_prime_table" = some (.ref f_require_prime_table)
  b_require_prime_table : Binds K fd_require_prime_table ["prime", "value"] []
  f_value_modulo : Addr
  fd_value_modulo : FuncData
  F_value_modulo : FnP K "value_modulo" s_value_modulo f_value_modulo fd_value_modulo
  g_value_modulo : mg "value_modulo" = some (.ref f_value_modulo)
  b_value_modulo : Binds K fd_value_modulo ["form", "x", "y"] []
  f_changed_modulo : Addr
  fd_changed_modulo : FuncData
  F_changed_modulo : FnP K "changed_modulo" s_changed_modulo f_changed_modulo fd_changed_modulo
  g_changed_modulo : mg "changed_modulo" = some (.ref f_changed_modulo)
  b_changed_modulo : Binds K fd_changed_modulo ["form", "table"] []
  f_law_dice : Addr
  fd_law_dice : FuncData
  F_law_dice : FnP K "_law_dice" s_law_dice f_law_dice fd_law_dice
  g_law_dice : mg "_law_dice" = some (.ref f_law_dice)
  b_law_dice : Binds K fd_law_dice ["_law_script", "_law_spot"] []
  f_law_roll : Addr
  fd_law_roll : FuncData
  F_law_roll : FnP K "_law_roll" s_law_roll f_law_roll fd_law_roll
  g_law_roll : mg "_law_roll" = some (.ref f_law_roll)
  b_law_roll : Binds K fd_law_roll ["_law_dice_here", "_law_total"] []
  f_law_pick : Addr
  fd_law_pick : FuncData
  F_law_pick : FnP K "_law_pick" s_law_pick f_law_pick fd_law_pick
  g_law_pick : mg "_law_pick" = some (.ref f_law_pick)
  b_law_pick : Binds K fd_law_pick ["_law_dice_here", "_law_items"] []
  f_law_near : Addr
  fd_law_near : FuncData
  F_law_near : FnP K "_law_near" s_law_near f_law_near fd_law_near
  g_law_near : mg "_law_near" = some (.ref f_law_near)
  b_law_near : Binds K fd_law_near ["_law_dice_here", "_law_most"] []
  f_law_gcd : Addr
  fd_law_gcd : FuncData
  F_law_gcd : FnP K "_law_gcd" s_law_gcd f_law_gcd fd_law_gcd
  g_law_gcd : mg "_law_gcd" = some (.ref f_law_gcd)
  b_law_gcd : Binds K fd_law_gcd ["_law_one", "_law_other"] []
  f_law_shared : Addr
  fd_law_shared : FuncData
  F_law_shared : FnP K "_law_shared" s_law_shared f_law_shared fd_law_shared
  g_law_shared : mg "_law_shared" = some (.ref f_law_shared)
  b_law_shared : Binds K fd_law_shared ["_law_numbers"] []
  f_law_plus : Addr
  fd_law_plus : FuncData
  F_law_plus : FnP K "_law_plus" s_law_plus f_law_plus fd_law_plus
  g_law_plus : mg "_law_plus" = some (.ref f_law_plus)
  b_law_plus : Binds K fd_law_plus ["_law_one", "_law_other"] []
  f_law_scaled : Addr
  fd_law_scaled : FuncData
  F_law_scaled : FnP K "_law_scaled" s_law_scaled f_law_scaled fd_law_scaled
  g_law_scaled : mg "_law_scaled" = some (.ref f_law_scaled)
  b_law_scaled : Binds K fd_law_scaled ["_law_form_here", "_law_factor"] []
  f_law_product : Addr
  fd_law_product : FuncData
  F_law_product : FnP K "_law_product" s_law_product f_law_product fd_law_product
  g_law_product : mg "_law_product" = some (.ref f_law_product)
  b_law_product : Binds K fd_law_product ["_law_one", "_law_other"] []
  f_law_all_product : Addr
  fd_law_all_product : FuncData
  F_law_all_product : FnP K "_law_all_product" s_law_all_product f_law_all_product fd_law_all_product
  g_law_all_product : mg "_law_all_product" = some (.ref f_law_all_product)
  b_law_all_product : Binds K fd_law_all_product ["_law_forms"] []
  f_law_power : Addr
  fd_law_power : FuncData
  F_law_power : FnP K "_law_power" s_law_power f_law_power fd_law_power
  g_law_power : mg "_law_power" = some (.ref f_law_power)
  b_law_power : Binds K fd_law_power ["_law_pair", "_law_times"] []
  f_law_changed : Addr
  fd_law_changed : FuncData
  F_law_changed : FnP K "_law_changed" s_law_changed f_law_changed fd_law_changed
  g_law_changed : mg "_law_changed" = some (.ref f_law_changed)
  b_law_changed : Binds K fd_law_changed ["_law_form_here", "_law_table"] []
  f_law_value : Addr
  fd_law_value : FuncData
  F_law_value : FnP K "_law_value" s_law_value f_law_value fd_law_value
  g_law_value : mg "_law_value" = some (.ref f_law_value)
  b_law_value : Binds K fd_law_value ["_law_form_here", "_law_x", "_law_y"] []
  f_law_plain : Addr
  fd_law_plain : FuncData
  F_law_plain : FnP K "_law_plain" s_law_plain f_law_plain fd_law_plain
  g_law_plain : mg "_law_plain" = some (.ref f_law_plain)
  b_law_plain : Binds K fd_law_plain ["_law_form_here"] []
  f_law_line : Addr
  fd_law_line : FuncData
  F_law_line : FnP K "_law_line" s_law_line f_law_line fd_law_line
  g_law_line : mg "_law_line" = some (.ref f_law_line)
  b_law_line : Binds K fd_law_line ["_law_point_here"] []
  f_law_point : Addr
  fd_law_point : FuncData
  F_law_point : FnP K "_law_point" s_law_point f_law_point fd_law_point
  g_law_point : mg "_law_point" = some (.ref f_law_point)
  b_law_point : Binds K fd_law_point ["_law_dice_here", "_law_most"] []
  f_law_small_form : Addr
  fd_law_small_form : FuncData
  F_law_small_form : FnP K "_law_small_form" s_law_small_form f_law_small_form fd_law_small_form
  g_law_small_form : mg "_law_small_form" = some (.ref f_law_small_form)
  b_law_small_form : Binds K fd_law_small_form ["_law_dice_here", "_law_degree", "_law_most"] []
  f_law_form : Addr
  fd_law_form : FuncData
  F_law_form : FnP K "_law_form" s_law_form f_law_form fd_law_form
  g_law_form : mg "_law_form" = some (.ref f_law_form)
  b_law_form : Binds K fd_law_form ["_law_dice_here", "_law_degree"] []
  f_law_joined : Addr
  fd_law_joined : FuncData
  F_law_joined : FnP K "_law_joined" s_law_joined f_law_joined fd_law_joined
  g_law_joined : mg "_law_joined" = some (.ref f_law_joined)
  b_law_joined : Binds K fd_law_joined ["_law_one", "_law_other"] []
  f_law_det : Addr
  fd_law_det : FuncData
  F_law_det : FnP K "_law_det" s_law_det f_law_det fd_law_det
  g_law_det : mg "_law_det" = some (.ref f_law_det)
  b_law_det : Binds K fd_law_det ["_law_table"] []
  f_law_left_by : Addr
  fd_law_left_by : FuncData
  F_law_left_by : FnP K "_law_left_by" s_law_left_by f_law_left_by fd_law_left_by
  g_law_left_by : mg "_law_left_by" = some (.ref f_law_left_by)
  b_law_left_by : Binds K fd_law_left_by ["_law_entries", "_law_prime"] []
  f_law_undo_by : Addr
  fd_law_undo_by : FuncData
  F_law_undo_by : FnP K "_law_undo_by" s_law_undo_by f_law_undo_by fd_law_undo_by
  g_law_undo_by : mg "_law_undo_by" = some (.ref f_law_undo_by)
  b_law_undo_by : Binds K fd_law_undo_by ["_law_number", "_law_prime"] []
  f_law_first_one : Addr
  fd_law_first_one : FuncData
  F_law_first_one : FnP K "_law_first_one" s_law_first_one f_law_first_one fd_law_first_one
  g_law_first_one : mg "_law_first_one" = some (.ref f_law_first_one)
  b_law_first_one : Binds K fd_law_first_one ["_law_entries", "_law_prime"] []
  f_law_some_prime : Addr
  fd_law_some_prime : FuncData
  F_law_some_prime : FnP K "_law_some_prime" s_law_some_prime f_law_some_prime fd_law_some_prime
  g_law_some_prime : mg "_law_some_prime" = some (.ref f_law_some_prime)
  b_law_some_prime : Binds K fd_law_some_prime ["_law_dice_here"] []
  f_law_prime_table : Addr
  fd_law_prime_table : FuncData
  F_law_prime_table : FnP K "_law_prime_table" s_law_prime_table f_law_prime_table fd_law_prime_table
  g_law_prime_table : mg "_law_prime_table" = some (.ref f_law_prime_table)
  b_law_prime_table : Binds K fd_law_prime_table ["_law_dice_here", "_law_prime"] []
  f_law_is_told : Addr
  fd_law_is_told : FuncData
  F_law_is_told : FnP K "_law_is_told" s_law_is_told f_law_is_told fd_law_is_told
  g_law_is_told : mg "_law_is_told" = some (.ref f_law_is_told)
  b_law_is_told : Binds K fd_law_is_told ["_law_form_here", "_law_prime", "_law_entries"] []
  f_law_right : Addr
  fd_law_right : FuncData
  F_law_right : FnP K "_law_right" s_law_right f_law_right fd_law_right
  g_law_right : mg "_law_right" = some (.ref f_law_right)
  b_law_right : Binds K fd_law_right ["_law_dice_here"] []
  f_law : Addr
  fd_law : FuncData
  F_law : FnP K "law" s_law f_law fd_law
  g_law : mg "law" = some (.ref f_law)
  b_law : Binds K fd_law ["_law_script"] []
  f_Told_init : Addr
  fd_Told_init : FuncData
  F_Told_init : FnM K "__init__" "Told.__init__" s_Told_init f_Told_init fd_Told_init
  b_Told_init : Binds K fd_Told_init ["self", "row"] []
  f_Form_init : Addr
  fd_Form_init : FuncData
  F_Form_init : FnM K "__init__" "Form.__init__" s_Form_init f_Form_init fd_Form_init
  b_Form_init : Binds K fd_Form_init ["self", "entries"] []
  f_Form_entries : Addr
  fd_Form_entries : FuncData
  F_Form_entries : FnM K "entries" "Form.entries" s_Form_entries f_Form_entries fd_Form_entries
  b_Form_entries : Binds K fd_Form_entries ["self"] []
  f_Form_degree : Addr
  fd_Form_degree : FuncData
  F_Form_degree : FnM K "degree" "Form.degree" s_Form_degree f_Form_degree fd_Form_degree
  b_Form_degree : Binds K fd_Form_degree ["self"] []
  f_PrimeForm_init : Addr
  fd_PrimeForm_init : FuncData
  F_PrimeForm_init : FnM K "__init__" "PrimeForm.__init__" s_PrimeForm_init f_PrimeForm_init fd_PrimeForm_init
  b_PrimeForm_init : Binds K fd_PrimeForm_init ["self", "prime", "entries"] []
  f_PrimeForm_of_form : Addr
  fd_PrimeForm_of_form : FuncData
  F_PrimeForm_of_form : FnM K "of_form" "PrimeForm.of_form" s_PrimeForm_of_form f_PrimeForm_of_form fd_PrimeForm_of_form
  b_PrimeForm_of_form : Binds K fd_PrimeForm_of_form ["cls", "form", "prime"] []
  f_PrimeForm_prime : Addr
  fd_PrimeForm_prime : FuncData
  F_PrimeForm_prime : FnM K "prime" "PrimeForm.prime" s_PrimeForm_prime f_PrimeForm_prime fd_PrimeForm_prime
  b_PrimeForm_prime : Binds K fd_PrimeForm_prime ["self"] []
  f_PrimeForm_entries : Addr
  fd_PrimeForm_entries : FuncData
  F_PrimeForm_entries : FnM K "entries" "PrimeForm.entries" s_PrimeForm_entries f_PrimeForm_entries fd_PrimeForm_entries
  b_PrimeForm_entries : Binds K fd_PrimeForm_entries ["self"] []
  f_PrimeForm_degree : Addr
  fd_PrimeForm_degree : FuncData
  F_PrimeForm_degree : FnM K "degree" "PrimeForm.degree" s_PrimeForm_degree f_PrimeForm_degree fd_PrimeForm_degree
  b_PrimeForm_degree : Binds K fd_PrimeForm_degree ["self"] []
  f_PrimeForm_is_zero : Addr
  fd_PrimeForm_is_zero : FuncData
  F_PrimeForm_is_zero : FnM K "is_zero" "PrimeForm.is_zero" s_PrimeForm_is_zero f_PrimeForm_is_zero fd_PrimeForm_is_zero
  b_PrimeForm_is_zero : Binds K fd_PrimeForm_is_zero ["self"] []
  f_PrimeForm_plain : Addr
  fd_PrimeForm_plain : FuncData
  F_PrimeForm_plain : FnM K "plain" "PrimeForm.plain" s_PrimeForm_plain f_PrimeForm_plain fd_PrimeForm_plain
  b_PrimeForm_plain : Binds K fd_PrimeForm_plain ["self"] []
  f_PrimeForm_value : Addr
  fd_PrimeForm_value : FuncData
  F_PrimeForm_value : FnM K "value" "PrimeForm.value" s_PrimeForm_value f_PrimeForm_value fd_PrimeForm_value
  b_PrimeForm_value : Binds K fd_PrimeForm_value ["self", "x", "y"] []
  f_PrimeForm_changed : Addr
  fd_PrimeForm_changed : FuncData
  F_PrimeForm_changed : FnM K "changed" "PrimeForm.changed" s_PrimeForm_changed f_PrimeForm_changed fd_PrimeForm_changed
  b_PrimeForm_changed : Binds K fd_PrimeForm_changed ["self", "table"] []
  f_PrimeForm_mul : Addr
  fd_PrimeForm_mul : FuncData
  F_PrimeForm_mul : FnM K "__mul__" "PrimeForm.__mul__" s_PrimeForm_mul f_PrimeForm_mul fd_PrimeForm_mul
  b_PrimeForm_mul : Binds K fd_PrimeForm_mul ["self", "other"] []
  f_PrimeForm_eq : Addr
  fd_PrimeForm_eq : FuncData
  F_PrimeForm_eq : FnM K "__eq__" "PrimeForm.__eq__" s_PrimeForm_eq f_PrimeForm_eq fd_PrimeForm_eq
  b_PrimeForm_eq : Binds K fd_PrimeForm_eq ["self", "other"] []
  f_PrimeForm_str : Addr
  fd_PrimeForm_str : FuncData
  F_PrimeForm_str : FnM K "__str__" "PrimeForm.__str__" s_PrimeForm_str f_PrimeForm_str fd_PrimeForm_str
  b_PrimeForm_str : Binds K fd_PrimeForm_str ["self"] []
  C_Told : Addr
  g_Told : mg "Told" = some (.ref C_Told)
  oc_Told : OwnF.OC K C_Told
  mk_Told : Mk K C_Told f_Told_init
  a_own_row : Addr
  sl_own_row : SlX.Slot1 K C_Told "own_row" a_own_row 0
  C_Form : Addr
  g_Form : mg "Form" = some (.ref C_Form)
  oc_Form : OwnF.OC K C_Form
  mk_Form : Mk K C_Form f_Form_init
  a_own_entries : Addr
  sl_own_entries : SlX.Slot1 K C_Form "own_entries" a_own_entries 0
  C_PrimeForm : Addr
  g_PrimeForm : mg "PrimeForm" = some (.ref C_PrimeForm)
  oc_PrimeForm : OwnF.OC K C_PrimeForm
  mk_PrimeForm : Mk K C_PrimeForm f_PrimeForm_init
  a_PrimeForm_own_entries : Addr
  sl_PrimeForm_own_entries : SlX.Slot1 K C_PrimeForm "own_entries" a_PrimeForm_own_entries 0
  a_own_prime : Addr
  sl_own_prime : SlX.Slot1 K C_PrimeForm "own_prime" a_own_prime 1
  mt_Told_init : HookG.Mt K C_Told "__init__" f_Told_init
  mt_Form_init : HookG.Mt K C_Form "__init__" f_Form_init
  p_Form_entries : Addr
  pr_Form_entries : HookG.Pr K C_Form "entries" p_Form_entries f_Form_entries
  p_Form_degree : Addr
  pr_Form_degree : HookG.Pr K C_Form "degree" p_Form_degree f_Form_degree
  mt_PrimeForm_init : HookG.Mt K C_PrimeForm "__init__" f_PrimeForm_init
  p_PrimeForm_of_form : Addr
  cm_PrimeForm_of_form : OwnC.Cm K C_PrimeForm "of_form" p_PrimeForm_of_form f_PrimeForm_of_form
  p_PrimeForm_prime : Addr
  pr_PrimeForm_prime : HookG.Pr K C_PrimeForm "prime" p_PrimeForm_prime f_PrimeForm_prime
  p_PrimeForm_entries : Addr
  pr_PrimeForm_entries : HookG.Pr K C_PrimeForm "entries" p_PrimeForm_entries f_PrimeForm_entries
  p_PrimeForm_degree : Addr
  pr_PrimeForm_degree : HookG.Pr K C_PrimeForm "degree" p_PrimeForm_degree f_PrimeForm_degree
  p_PrimeForm_is_zero : Addr
  pr_PrimeForm_is_zero : HookG.Pr K C_PrimeForm "is_zero" p_PrimeForm_is_zero f_PrimeForm_is_zero
  p_PrimeForm_plain : Addr
  pr_PrimeForm_plain : HookG.Pr K C_PrimeForm "plain" p_PrimeForm_plain f_PrimeForm_plain
  mt_PrimeForm_value : HookG.Mt K C_PrimeForm "value" f_PrimeForm_value
  mt_PrimeForm_changed : HookG.Mt K C_PrimeForm "changed" f_PrimeForm_changed
  mt_PrimeForm_mul : HookG.Mt K C_PrimeForm "__mul__" f_PrimeForm_mul
  mt_PrimeForm_eq : HookG.Mt K C_PrimeForm "__eq__" f_PrimeForm_eq
  mt_PrimeForm_str : HookG.Mt K C_PrimeForm "__str__" f_PrimeForm_str
  kit_Told_Form : PySem.W.kitOne K (.ref C_Told) (.ref C_Form) = some false
  kit_Told_PrimeForm : PySem.W.kitOne K (.ref C_Told) (.ref C_PrimeForm) = some false
  kit_Form_Told : PySem.W.kitOne K (.ref C_Form) (.ref C_Told) = some false
  kit_Form_PrimeForm : PySem.W.kitOne K (.ref C_Form) (.ref C_PrimeForm) = some false
  kit_PrimeForm_Told : PySem.W.kitOne K (.ref C_PrimeForm) (.ref C_Told) = some false
  kit_PrimeForm_Form : PySem.W.kitOne K (.ref C_PrimeForm) (.ref C_Form) = some false
  z_abs : mg "abs" = none
  z_all : mg "all" = none
  z_any : mg "any" = none
  z_bool : mg "bool" = none
  z_enumerate : mg "enumerate" = none
  z_int : mg "int" = none
  z_isinstance : mg "isinstance" = none
  z_len : mg "len" = none
  z_max : mg "max" = none
  z_min : mg "min" = none
  z_range : mg "range" = none
  z_repr : mg "repr" = none
  z_str : mg "str" = none
  z_tuple : mg "tuple" = none
  z_zip : mg "zip" = none
  c_GREATEST : ∃ t, mg "GREATEST" = some (.int 1000000000000000000000000000000000000000000000000000000000000 t)
  c_MAX_DEGREE : ∃ t, mg "MAX_DEGREE" = some (.int 40 t)
  c_MOST_DEGREE : ∃ t, mg "MOST_DEGREE" = some (.int 12 t)
  A_PRIMES : Addr
  t_PRIMES : StatT.Tp K mg "PRIMES" [13, 17, 19, 23, 29, 31, 37, 41, 43, 47, 53, 59, 61, 67, 71, 73, 79, 83, 89, 97, 101] A_PRIMES
/-! ### for the head -/
def d_is_whole : HookG.GD := ⟨.glo "is_whole", "is_whole", "is_whole", defArgs s_is_whole, defBody s_is_whole, defScope s_is_whole⟩
def d_is_short : HookG.GD := ⟨.glo "is_short", "is_short", "is_short", defArgs s_is_short, defBody s_is_short, defScope s_is_short⟩
def d_are_short : HookG.GD := ⟨.glo "are_short", "are_short", "are_short", defArgs s_are_short, defBody s_are_short, defScope s_are_short⟩
def d_product_in : HookG.GD := ⟨.glo "product_in", "product_in", "product_in", defArgs s_product_in, defBody s_product_in, defScope s_product_in⟩
def d_joined_entries : HookG.GD := ⟨.glo "joined_entries", "joined_entries", "joined_entries", defArgs s_joined_entries, defBody s_joined_entries, defScope s_joined_entries⟩
def d_changed_in : HookG.GD := ⟨.glo "changed_in", "changed_in", "changed_in", defArgs s_changed_in, defBody s_changed_in, defScope s_changed_in⟩
def d_are_entries : HookG.GD := ⟨.glo "are_entries", "are_entries", "are_entries", defArgs s_are_entries, defBody s_are_entries, defScope s_are_entries⟩
def d_require_form : HookG.GD := ⟨.glo "require_form", "require_form", "require_form", defArgs s_require_form, defBody s_require_form, defScope s_require_form⟩
def d_require_prime : HookG.GD := ⟨.glo "require_prime", "require_prime", "require_prime", defArgs s_require_prime, defBody s_require_prime, defScope s_require_prime⟩
def d_undone_in : HookG.GD := ⟨.glo "undone_in", "undone_in", "undone_in", defArgs s_undone_in, defBody s_undone_in, defScope s_undone_in⟩
def d_modulo : HookG.GD := ⟨.glo "modulo", "modulo", "modulo", defArgs s_modulo, defBody s_modulo, defScope s_modulo⟩
def d_plain_row : HookG.GD := ⟨.glo "plain_row", "plain_row", "plain_row", defArgs s_plain_row, defBody s_plain_row, defScope s_plain_row⟩
def d_determinant_in : HookG.GD := ⟨.glo "determinant_in", "determinant_in", "determinant_in", defArgs s_determinant_in, defBody s_determinant_in, defScope s_determinant_in⟩
def d_is_prime_table : HookG.GD := ⟨.glo "is_prime_table", "is_prime_table", "is_prime_table", defArgs s_is_prime_table, defBody s_is_prime_table, defScope s_is_prime_table⟩
def d_require_prime_table : HookG.GD := ⟨.glo "require_prime_table", "require_prime_table", "require_prime_table", defArgs s_require_prime_table, defBody s_require_prime_table, defScope s_require_prime_table⟩
def d_value_modulo : HookG.GD := ⟨.glo "value_modulo", "value_modulo", "value_modulo", defArgs s_value_modulo, defBody s_value_modulo, defScope s_value_modulo⟩
def d_changed_modulo : HookG.GD := ⟨.glo "changed_modulo", "changed_modulo", "changed_modulo", defArgs s_changed_modulo, defBody s_changed_modulo, defScope s_changed_modulo⟩
def d_law_dice : HookG.GD := ⟨.glo "_law_dice", "_law_dice", "_law_dice", defArgs s_law_dice, defBody s_law_dice, defScope s_law_dice⟩
def d_law_roll : HookG.GD := ⟨.glo "_law_roll", "_law_roll", "_law_roll", defArgs s_law_roll, defBody s_law_roll, defScope s_law_roll⟩
def d_law_pick : HookG.GD := ⟨.glo "_law_pick", "_law_pick", "_law_pick", defArgs s_law_pick, defBody s_law_pick, defScope s_law_pick⟩
def d_law_near : HookG.GD := ⟨.glo "_law_near", "_law_near", "_law_near", defArgs s_law_near, defBody s_law_near, defScope s_law_near⟩
def d_law_gcd : HookG.GD := ⟨.glo "_law_gcd", "_law_gcd", "_law_gcd", defArgs s_law_gcd, defBody s_law_gcd, defScope s_law_gcd⟩
def d_law_shared : HookG.GD := ⟨.glo "_law_shared", "_law_shared", "_law_shared", defArgs s_law_shared, defBody s_law_shared, defScope s_law_shared⟩
def d_law_plus : HookG.GD := ⟨.glo "_law_plus", "_law_plus", "_law_plus", defArgs s_law_plus, defBody s_law_plus, defScope s_law_plus⟩
def d_law_scaled : HookG.GD := ⟨.glo "_law_scaled", "_law_scaled", "_law_scaled", defArgs s_law_scaled, defBody s_law_scaled, defScope s_law_scaled⟩
def d_law_product : HookG.GD := ⟨.glo "_law_product", "_law_product", "_law_product", defArgs s_law_product, defBody s_law_product, defScope s_law_product⟩
def d_law_all_product : HookG.GD := ⟨.glo "_law_all_product", "_law_all_product", "_law_all_product", defArgs s_law_all_product, defBody s_law_all_product, defScope s_law_all_product⟩
def d_law_power : HookG.GD := ⟨.glo "_law_power", "_law_power", "_law_power", defArgs s_law_power, defBody s_law_power, defScope s_law_power⟩
def d_law_changed : HookG.GD := ⟨.glo "_law_changed", "_law_changed", "_law_changed", defArgs s_law_changed, defBody s_law_changed, defScope s_law_changed⟩
def d_law_value : HookG.GD := ⟨.glo "_law_value", "_law_value", "_law_value", defArgs s_law_value, defBody s_law_value, defScope s_law_value⟩
def d_law_plain : HookG.GD := ⟨.glo "_law_plain", "_law_plain", "_law_plain", defArgs s_law_plain, defBody s_law_plain, defScope s_law_plain⟩
def d_law_line : HookG.GD := ⟨.glo "_law_line", "_law_line", "_law_line", defArgs s_law_line, defBody s_law_line, defScope s_law_line⟩
def d_law_point : HookG.GD := ⟨.glo "_law_point", "_law_point", "_law_point", defArgs s_law_point, defBody s_law_point, defScope s_law_point⟩
def d_law_small_form : HookG.GD := ⟨.glo "_law_small_form", "_law_small_form", "_law_small_form", defArgs s_law_small_form, defBody s_law_small_form, defScope s_law_small_form⟩
def d_law_form : HookG.GD := ⟨.glo "_law_form", "_law_form", "_law_form", defArgs s_law_form, defBody s_law_form, defScope s_law_form⟩
def d_law_joined : HookG.GD := ⟨.glo "_law_joined", "_law_joined", "_law_joined", defArgs s_law_joined, defBody s_law_joined, defScope s_law_joined⟩
def d_law_det : HookG.GD := ⟨.glo "_law_det", "_law_det", "_law_det", defArgs s_law_det, defBody s_law_det, defScope s_law_det⟩
def d_law_left_by : HookG.GD := ⟨.glo "_law_left_by", "_law_left_by", "_law_left_by", defArgs s_law_left_by, defBody s_law_left_by, defScope s_law_left_by⟩
def d_law_undo_by : HookG.GD := ⟨.glo "_law_undo_by", "_law_undo_by", "_law_undo_by", defArgs s_law_undo_by, defBody s_law_undo_by, defScope s_law_undo_by⟩
def d_law_first_one : HookG.GD := ⟨.glo "_law_first_one", "_law_first_one", "_law_first_one", defArgs s_law_first_one, defBody s_law_first_one, defScope s_law_first_one⟩
def d_law_some_prime : HookG.GD := ⟨.glo "_law_some_prime", "_law_some_prime", "_law_some_prime", defArgs s_law_some_prime, defBody s_law_some_prime, defScope s_law_some_prime⟩
def d_law_prime_table : HookG.GD := ⟨.glo "_law_prime_table", "_law_prime_table", "_law_prime_table", defArgs s_law_prime_table, defBody s_law_prime_table, defScope s_law_prime_table⟩
def d_law_is_told : HookG.GD := ⟨.glo "_law_is_told", "_law_is_told", "_law_is_told", defArgs s_law_is_told, defBody s_law_is_told, defScope s_law_is_told⟩
def d_law_right : HookG.GD := ⟨.glo "_law_right", "_law_right", "_law_right", defArgs s_law_right, defBody s_law_right, defScope s_law_right⟩
def d_law : HookG.GD := ⟨.glo "law", "law", "law", defArgs s_law, defBody s_law, defScope s_law⟩
def d_Told_init : HookG.GD := ⟨.met "Told" "__init__", "__init__", "Told.__init__", defArgs s_Told_init, defBody s_Told_init, defScope s_Told_init⟩
def d_Form_init : HookG.GD := ⟨.met "Form" "__init__", "__init__", "Form.__init__", defArgs s_Form_init, defBody s_Form_init, defScope s_Form_init⟩
def d_Form_entries : HookG.GD := ⟨.prp "Form" "entries", "entries", "Form.entries", defArgs s_Form_entries, defBody s_Form_entries, defScope s_Form_entries⟩
def d_Form_degree : HookG.GD := ⟨.prp "Form" "degree", "degree", "Form.degree", defArgs s_Form_degree, defBody s_Form_degree, defScope s_Form_degree⟩
def d_PrimeForm_init : HookG.GD := ⟨.met "PrimeForm" "__init__", "__init__", "PrimeForm.__init__", defArgs s_PrimeForm_init, defBody s_PrimeForm_init, defScope s_PrimeForm_init⟩
def d_PrimeForm_of_form : HookG.GD := ⟨.cms "PrimeForm" "of_form", "of_form", "PrimeForm.of_form", defArgs s_PrimeForm_of_form, defBody s_PrimeForm_of_form, defScope s_PrimeForm_of_form⟩
def d_PrimeForm_prime : HookG.GD := ⟨.prp "PrimeForm" "prime", "prime", "PrimeForm.prime", defArgs s_PrimeForm_prime, defBody s_PrimeForm_prime, defScope s_PrimeForm_prime⟩
def d_PrimeForm_entries : HookG.GD := ⟨.prp "PrimeForm" "entries", "entries", "PrimeForm.entries", defArgs s_PrimeForm_entries, defBody s_PrimeForm_entries, defScope s_PrimeForm_entries⟩
def d_PrimeForm_degree : HookG.GD := ⟨.prp "PrimeForm" "degree", "degree", "PrimeForm.degree", defArgs s_PrimeForm_degree, defBody s_PrimeForm_degree, defScope s_PrimeForm_degree⟩
def d_PrimeForm_is_zero : HookG.GD := ⟨.prp "PrimeForm" "is_zero", "is_zero", "PrimeForm.is_zero", defArgs s_PrimeForm_is_zero, defBody s_PrimeForm_is_zero, defScope s_PrimeForm_is_zero⟩
def d_PrimeForm_plain : HookG.GD := ⟨.prp "PrimeForm" "plain", "plain", "PrimeForm.plain", defArgs s_PrimeForm_plain, defBody s_PrimeForm_plain, defScope s_PrimeForm_plain⟩
def d_PrimeForm_value : HookG.GD := ⟨.met "PrimeForm" "value", "value", "PrimeForm.value", defArgs s_PrimeForm_value, defBody s_PrimeForm_value, defScope s_PrimeForm_value⟩
def d_PrimeForm_changed : HookG.GD := ⟨.met "PrimeForm" "changed", "changed", "PrimeForm.changed", defArgs s_PrimeForm_changed, defBody s_PrimeForm_changed, defScope s_PrimeForm_changed⟩
def d_PrimeForm_mul : HookG.GD := ⟨.met "PrimeForm" "__mul__", "__mul__", "PrimeForm.__mul__", defArgs s_PrimeForm_mul, defBody s_PrimeForm_mul, defScope s_PrimeForm_mul⟩
def d_PrimeForm_eq : HookG.GD := ⟨.met "PrimeForm" "__eq__", "__eq__", "PrimeForm.__eq__", defArgs s_PrimeForm_eq, defBody s_PrimeForm_eq, defScope s_PrimeForm_eq⟩
def d_PrimeForm_str : HookG.GD := ⟨.met "PrimeForm" "__str__", "__str__", "PrimeForm.__str__", defArgs s_PrimeForm_str, defBody s_PrimeForm_str, defScope s_PrimeForm_str⟩
def fnL : List HookG.GD := [d_is_whole, d_is_short, d_are_short, d_product_in, d_joined_entries, d_changed_in, d_are_entries, d_require_form, d_require_prime, d_undone_in, d_modulo, d_plain_row, d_determinant_in, d_is_prime_table, d_require_prime_table, d_value_modulo, d_changed_modulo, d_law_dice, d_law_roll, d_law_pick, d_law_near, d_law_gcd, d_law_shared, d_law_plus, d_law_scaled, d_law_product, d_law_all_product, d_law_power, d_law_changed, d_law_value, d_law_plain, d_law_line, d_law_point, d_law_small_form, d_law_form, d_law_joined, d_law_det, d_law_left_by, d_law_undo_by, d_law_first_one, d_law_some_prime, d_law_prime_table, d_law_is_told, d_law_right, d_law, d_Told_init, d_Form_init, d_Form_entries, d_Form_degree, d_PrimeForm_init, d_PrimeForm_of_form, d_PrimeForm_prime, d_PrimeForm_entries, d_PrimeForm_degree, d_PrimeForm_is_zero, d_PrimeForm_plain, d_PrimeForm_value, d_PrimeForm_changed, d_PrimeForm_mul, d_PrimeForm_eq, d_PrimeForm_str]
def faL : List He.Fa := [.glo "is_whole", .glo "is_short", .glo "are_short", .glo "product_in", .glo "joined_entries", .glo "changed_in", .glo "are_entries", .glo "require_form", .glo "require_prime", .glo "undone_in", .glo "modulo", .glo "plain_row", .glo "determinant_in", .glo "is_prime_table", .glo "require_prime_table", .glo "value_modulo", .glo "changed_modulo", .glo "_law_dice", .glo "_law_roll", .glo "_law_pick", .glo "_law_near", .glo "_law_gcd", .glo "_law_shared", .glo "_law_plus", .glo "_law_scaled", .glo "_law_product", .glo "_law_all_product", .glo "_law_power", .glo "_law_changed", .glo "_law_value", .glo "_law_plain", .glo "_law_line", .glo "_law_point", .glo "_law_small_form", .glo "_law_form", .glo "_law_joined", .glo "_law_det", .glo "_law_left_by", .glo "_law_undo_by", .glo "_law_first_one", .glo "_law_some_prime", .glo "_law_prime_table", .glo "_law_is_told", .glo "_law_right", .glo "law", .glo "Told", .glo "Form", .glo "PrimeForm", .free "abs", .free "all", .free "any", .free "bool", .free "enumerate", .free "int", .free "isinstance", .free "len", .free "max", .free "min", .free "range", .free "repr", .free "str", .free "tuple", .free "zip", .int "GREATEST" 1000000000000000000000000000000000000000000000000000000000000, .int "MAX_DEGREE" 40, .int "MOST_DEGREE" 12, .mkr "Told", .mkr "Form", .mkr "PrimeForm"]
def exL (K : PySem.W.Frag) : Bool := OwnF.ocB K "Told" && (HookG.slotB K "Told" "own_row" 0 && (OwnF.ocB K "Form" && (HookG.slotB K "Form" "own_entries" 0 && (OwnF.ocB K "PrimeForm" && (HookG.slotB K "PrimeForm" "own_entries" 0 && (HookG.slotB K "PrimeForm" "own_prime" 1 && (HookG.mtB K "Told" "__init__" && (HookG.mtB K "Form" "__init__" && (HookG.prB K "Form" "entries" && (HookG.prB K "Form" "degree" && (HookG.mtB K "PrimeForm" "__init__" && (OwnC.cmB K "PrimeForm" "of_form" && (HookG.prB K "PrimeForm" "prime" && (HookG.prB K "PrimeForm" "entries" && (HookG.prB K "PrimeForm" "degree" && (HookG.prB K "PrimeForm" "is_zero" && (HookG.prB K "PrimeForm" "plain" && (HookG.mtB K "PrimeForm" "value" && (HookG.mtB K "PrimeForm" "changed" && (HookG.mtB K "PrimeForm" "__mul__" && (HookG.mtB K "PrimeForm" "__eq__" && (HookG.mtB K "PrimeForm" "__str__" && (HookG.dO (PySem.W.kitOne K (.ref (He.ga K "Told")) (.ref (He.ga K "Form"))) (some false) && (HookG.dO (PySem.W.kitOne K (.ref (He.ga K "Told")) (.ref (He.ga K "PrimeForm"))) (some false) && (HookG.dO (PySem.W.kitOne K (.ref (He.ga K "Form")) (.ref (He.ga K "Told"))) (some false) && (HookG.dO (PySem.W.kitOne K (.ref (He.ga K "Form")) (.ref (He.ga K "PrimeForm"))) (some false) && (HookG.dO (PySem.W.kitOne K (.ref (He.ga K "PrimeForm")) (.ref (He.ga K "Told"))) (some false) && (HookG.dO (PySem.W.kitOne K (.ref (He.ga K "PrimeForm")) (.ref (He.ga K "Form"))) (some false) && (StatT.tupB K "PRIMES" [13, 17, 19, 23, 29, 31, 37, 41, 43, 47, 53, 59, 61, 67, 71, 73, 79, 83, 89, 97, 101])))))))))))))))))))))))))))))
theorem facts_of {K : PySem.W.Frag} {h : Heap} {mg : Str → Option Value} (X : K.In h) (G : h.Ns mainGlobals mg) (c : HookG.SaysG faL fnL exL K) : Nonempty (Facts K mg) := by
  have ex := c.more
  unfold exL at ex
  obtain ⟨ex_0, ex⟩ := He.ba ex
  obtain ⟨ex_1, ex⟩ := He.ba ex
  obtain ⟨ex_2, ex⟩ := He.ba ex
  obtain ⟨ex_3, ex⟩ := He.ba ex
  obtain ⟨ex_4, ex⟩ := He.ba ex
  obtain ⟨ex_5, ex⟩ := He.ba ex
  obtain ⟨ex_6, ex⟩ := He.ba ex
  obtain ⟨ex_7, ex⟩ := He.ba ex
  obtain ⟨ex_8, ex⟩ := He.ba ex
  obtain ⟨ex_9, ex⟩ := He.ba ex
  obtain ⟨ex_10, ex⟩ := He.ba ex
  obtain ⟨ex_11, ex⟩ := He.ba ex
  obtain ⟨ex_12, ex⟩ := He.ba ex
  obtain ⟨ex_13, ex⟩ := He.ba ex
  obtain ⟨ex_14, ex⟩ := He.ba ex
  obtain ⟨ex_15, ex⟩ := He.ba ex
  obtain ⟨ex_16, ex⟩ := He.ba ex
  obtain ⟨ex_17, ex⟩ := He.ba ex
  obtain ⟨ex_18, ex⟩ := He.ba ex
  obtain ⟨ex_19, ex⟩ := He.ba ex
  obtain ⟨ex_20, ex⟩ := He.ba ex
  obtain ⟨ex_21, ex⟩ := He.ba ex
  obtain ⟨ex_22, ex⟩ := He.ba ex
  obtain ⟨ex_23, ex⟩ := He.ba ex
  obtain ⟨ex_24, ex⟩ := He.ba ex
  obtain ⟨ex_25, ex⟩ := He.ba ex
  obtain ⟨ex_26, ex⟩ := He.ba ex
  obtain ⟨ex_27, ex⟩ := He.ba ex
  obtain ⟨ex_28, ex⟩ := He.ba ex
  obtain ⟨fd_is_whole, F_is_whole⟩ := c.def_ 0 (d := d_is_whole) rfl
  obtain ⟨fd_is_short, F_is_short⟩ := c.def_ 1 (d := d_is_short) rfl
  obtain ⟨fd_are_short, F_are_short⟩ := c.def_ 2 (d := d_are_short) rfl
  obtain ⟨fd_product_in, F_product_in⟩ := c.def_ 3 (d := d_product_in) rfl
  obtain ⟨fd_joined_entries, F_joined_entries⟩ := c.def_ 4 (d := d_joined_entries) rfl
  obtain ⟨fd_changed_in, F_changed_in⟩ := c.def_ 5 (d := d_changed_in) rfl
  obtain ⟨fd_are_entries, F_are_entries⟩ := c.def_ 6 (d := d_are_entries) rfl
  obtain ⟨fd_require_form, F_require_form⟩ := c.def_ 7 (d := d_require_form) rfl
  obtain ⟨fd_require_prime, F_require_prime⟩ := c.def_ 8 (d := d_require_prime) rfl
  obtain ⟨fd_undone_in, F_undone_in⟩ := c.def_ 9 (d := d_undone_in) rfl
  obtain ⟨fd_modulo, F_modulo⟩ := c.def_ 10 (d := d_modulo) rfl
  obtain ⟨fd_plain_row, F_plain_row⟩ := c.def_ 11 (d := d_plain_row) rfl
  obtain ⟨fd_determinant_in, F_determinant_in⟩ := c.def_ 12 (d := d_determinant_in) rfl
  obtain ⟨fd_is_prime_table, F_is_prime_table⟩ := c.def_ 13 (d := d_is_prime_table) rfl
  obtain ⟨fd_require_prime_table, F_require_prime_table⟩ := c.def_ 14 (d := d_require_prime_table) rfl
  obtain ⟨fd_value_modulo, F_value_modulo⟩ := c.def_ 15 (d := d_value_modulo) rfl
  obtain ⟨fd_changed_modulo, F_changed_modulo⟩ := c.def_ 16 (d := d_changed_modulo) rfl
  obtain ⟨fd_law_dice, F_law_dice⟩ := c.def_ 17 (d := d_law_dice) rfl
  obtain ⟨fd_law_roll, F_law_roll⟩ := c.def_ 18 (d := d_law_roll) rfl
  obtain ⟨fd_law_pick, F_law_pick⟩ := c.def_ 19 (d := d_law_pick) rfl
  obtain ⟨fd_law_near, F_law_near⟩ := c.def_ 20 (d := d_law_near) rfl
  obtain ⟨fd_law_gcd, F_law_gcd⟩ := c.def_ 21 (d := d_law_gcd) rfl
  obtain ⟨fd_law_shared, F_law_shared⟩ := c.def_ 22 (d := d_law_shared) rfl
  obtain ⟨fd_law_plus, F_law_plus⟩ := c.def_ 23 (d := d_law_plus) rfl
  obtain ⟨fd_law_scaled, F_law_scaled⟩ := c.def_ 24 (d := d_law_scaled) rfl
  obtain ⟨fd_law_product, F_law_product⟩ := c.def_ 25 (d := d_law_product) rfl
  obtain ⟨fd_law_all_product, F_law_all_product⟩ := c.def_ 26 (d := d_law_all_product) rfl
  obtain ⟨fd_law_power, F_law_power⟩ := c.def_ 27 (d := d_law_power) rfl
  obtain ⟨fd_law_changed, F_law_changed⟩ := c.def_ 28 (d := d_law_changed) rfl
  obtain ⟨fd_law_value, F_law_value⟩ := c.def_ 29 (d := d_law_value) rfl
  obtain ⟨fd_law_plain, F_law_plain⟩ := c.def_ 30 (d := d_law_plain) rfl
  obtain ⟨fd_law_line, F_law_line⟩ := c.def_ 31 (d := d_law_line) rfl
  obtain ⟨fd_law_point, F_law_point⟩ := c.def_ 32 (d := d_law_point) rfl
  obtain ⟨fd_law_small_form, F_law_small_form⟩ := c.def_ 33 (d := d_law_small_form) rfl
  obtain ⟨fd_law_form, F_law_form⟩ := c.def_ 34 (d := d_law_form) rfl
  obtain ⟨fd_law_joined, F_law_joined⟩ := c.def_ 35 (d := d_law_joined) rfl
  obtain ⟨fd_law_det, F_law_det⟩ := c.def_ 36 (d := d_law_det) rfl
  obtain ⟨fd_law_left_by, F_law_left_by⟩ := c.def_ 37 (d := d_law_left_by) rfl
  obtain ⟨fd_law_undo_by, F_law_undo_by⟩ := c.def_ 38 (d := d_law_undo_by) rfl
  obtain ⟨fd_law_first_one, F_law_first_one⟩ := c.def_ 39 (d := d_law_first_one) rfl
  obtain ⟨fd_law_some_prime, F_law_some_prime⟩ := c.def_ 40 (d := d_law_some_prime) rfl
  obtain ⟨fd_law_prime_table, F_law_prime_table⟩ := c.def_ 41 (d := d_law_prime_table) rfl
  obtain ⟨fd_law_is_told, F_law_is_told⟩ := c.def_ 42 (d := d_law_is_told) rfl
  obtain ⟨fd_law_right, F_law_right⟩ := c.def_ 43 (d := d_law_right) rfl
  obtain ⟨fd_law, F_law⟩ := c.def_ 44 (d := d_law) rfl
  obtain ⟨fd_Told_init, F_Told_init⟩ := c.def_ 45 (d := d_Told_init) rfl
  obtain ⟨fd_Form_init, F_Form_init⟩ := c.def_ 46 (d := d_Form_init) rfl
  obtain ⟨fd_Form_entries, F_Form_entries⟩ := c.def_ 47 (d := d_Form_entries) rfl
  obtain ⟨fd_Form_degree, F_Form_degree⟩ := c.def_ 48 (d := d_Form_degree) rfl
  obtain ⟨fd_PrimeForm_init, F_PrimeForm_init⟩ := c.def_ 49 (d := d_PrimeForm_init) rfl
  obtain ⟨fd_PrimeForm_of_form, F_PrimeForm_of_form⟩ := c.def_ 50 (d := d_PrimeForm_of_form) rfl
  obtain ⟨fd_PrimeForm_prime, F_PrimeForm_prime⟩ := c.def_ 51 (d := d_PrimeForm_prime) rfl
  obtain ⟨fd_PrimeForm_entries, F_PrimeForm_entries⟩ := c.def_ 52 (d := d_PrimeForm_entries) rfl
  obtain ⟨fd_PrimeForm_degree, F_PrimeForm_degree⟩ := c.def_ 53 (d := d_PrimeForm_degree) rfl
  obtain ⟨fd_PrimeForm_is_zero, F_PrimeForm_is_zero⟩ := c.def_ 54 (d := d_PrimeForm_is_zero) rfl
  obtain ⟨fd_PrimeForm_plain, F_PrimeForm_plain⟩ := c.def_ 55 (d := d_PrimeForm_plain) rfl
  obtain ⟨fd_PrimeForm_value, F_PrimeForm_value⟩ := c.def_ 56 (d := d_PrimeForm_value) rfl
  obtain ⟨fd_PrimeForm_changed, F_PrimeForm_changed⟩ := c.def_ 57 (d := d_PrimeForm_changed) rfl
  obtain ⟨fd_PrimeForm_mul, F_PrimeForm_mul⟩ := c.def_ 58 (d := d_PrimeForm_mul) rfl
  obtain ⟨fd_PrimeForm_eq, F_PrimeForm_eq⟩ := c.def_ 59 (d := d_PrimeForm_eq) rfl
  obtain ⟨fd_PrimeForm_str, F_PrimeForm_str⟩ := c.def_ 60 (d := d_PrimeForm_str) rfl
  exact ⟨{ f_is_whole := _, fd_is_whole := _, F_is_whole := F_is_whole, b_is_whole := (F_is_whole.bindsN fun _ _ _ _ _ _ us hl => match us, hl with | [_], _ => rfl), g_is_whole := He.glo_ok X G (c.fact 0 (f := .glo "is_whole") rfl), f_is_short := _, fd_is_short := _, F_is_short := F_is_short, b_is_short := (F_is_short.bindsN fun _ _ _ _ _ _ us hl => match us, hl with | [_], _ => rfl), g_is_short := He.glo_ok X G (c.fact 1 (f := .glo "is_short") rfl), f_are_short := _, fd_are_short := _, F_are_short := F_are_short, b_are_short := (F_are_short.bindsN fun _ _ _ _ _ _ us hl => match us, hl with | [_], _ => rfl), g_are_short := He.glo_ok X G (c.fact 2 (f := .glo "are_short") rfl), f_product_in := _, fd_product_in := _, F_product_in := F_product_in, b_product_in := (F_product_in.bindsN fun _ _ _ _ _ _ us hl => match us, hl with | [_, _], _ => rfl), g_product_in := He.glo_ok X G (c.fact 3 (f := .glo "product_in") rfl), f_joined_entries := _, fd_joined_entries := _, F_joined_entries := F_joined_entries, b_joined_entries := (F_joined_entries.bindsN fun _ _ _ _ _ _ us hl => match us, hl with | [_, _], _ => rfl), g_joined_entries := He.glo_ok X G (c.fact 4 (f := .glo "joined_entries") rfl), f_changed_in := _, fd_changed_in := _, F_changed_in := F_changed_in, b_changed_in := (F_changed_in.bindsN fun _ _ _ _ _ _ us hl => match us, hl with | [_, _], _ => rfl), g_changed_in := He.glo_ok X G (c.fact 5 (f := .glo "changed_in") rfl), f_are_entries := _, fd_are_entries := _, F_are_entries := F_are_entries, b_are_entries := (F_are_entries.bindsN fun _ _ _ _ _ _ us hl => match us, hl with | [_], _ => rfl), g_are_entries := He.glo_ok X G (c.fact 6 (f := .glo "are_entries") rfl), f_require_form := _, fd_require_form := _, F_require_form := F_require_form, b_require_form := (F_require_form.bindsN fun _ _ _ _ _ _ us hl => match us, hl with | [_], _ => rfl), g_require_form := He.glo_ok X G (c.fact 7 (f := .glo "require_form") rfl), f_require_prime := _, fd_require_prime := _, F_require_prime := F_require_prime, b_require_prime := (F_require_prime.bindsN fun _ _ _ _ _ _ us hl => match us, hl with | [_], _ => rfl), g_require_prime := He.glo_ok X G (c.fact 8 (f := .glo "require_prime") rfl), f_undone_in := _, fd_undone_in := _, F_undone_in := F_undone_in, b_undone_in := (F_undone_in.bindsN fun _ _ _ _ _ _ us hl => match us, hl with | [_, _], _ => rfl), g_undone_in := He.glo_ok X G (c.fact 9 (f := .glo "undone_in") rfl), f_modulo := _, fd_modulo := _, F_modulo := F_modulo, b_modulo := (F_modulo.bindsN fun _ _ _ _ _ _ us hl => match us, hl with | [_, _], _ => rfl), g_modulo := He.glo_ok X G (c.fact 10 (f := .glo "modulo") rfl), f_plain_row := _, fd_plain_row := _, F_plain_row := F_plain_row, b_plain_row := (F_plain_row.bindsN fun _ _ _ _ _ _ us hl => match us, hl with | [_, _], _ => rfl), g_plain_row := He.glo_ok X G (c.fact 11 (f := .glo "plain_row") rfl), f_determinant_in := _, fd_determinant_in := _, F_determinant_in := F_determinant_in, b_determinant_in := (F_determinant_in.bindsN fun _ _ _ _ _ _ us hl => match us, hl with | [_], _ => rfl), g_determinant_in := He.glo_ok X G (c.fact 12 (f := .glo "determinant_in") rfl), f_is_prime_table := _, fd_is_prime_table := _, F_is_prime_table := F_is_prime_table, b_is_prime_table := (F_is_prime_table.bindsN fun _ _ _ _ _ _ us hl => match us, hl with | [_, _], _ => rfl), g_is_prime_table := He.glo_ok X G (c.fact 13 (f := .glo "is_prime_table") rfl), f_require_prime_table := _, fd_require_prime_table := _, F_require_prime_table := F_require_prime_table, b_require_prime_table := (F_require_prime_table.bindsN fun _ _ _ _ _ _ us hl => match us, hl with | [_, _], _ => rfl), g_require_prime_table := He.glo_ok X G (c.fact 14 (f := .glo "require_prime_table") rfl), f_value_modulo := _, fd_value_modulo := _, F_value_modulo := F_value_modulo, b_value_modulo := (F_value_modulo.bindsN fun _ _ _ _ _ _ us hl => match us, hl with | [_, _, _], _ => rfl), g_value_modulo := He.glo_ok X G (c.fact 15 (f := .glo "value_modulo") rfl), f_changed_modulo := _, fd_changed_modulo := _, F_changed_modulo := F_changed_modulo, b_changed_modulo := (F_changed_modulo.bindsN fun _ _ _ _ _ _ us hl => match us, hl with | [_, _], _ => rfl), g_changed_modulo := He.glo_ok X G (c.fact 16 (f := .glo "changed_modulo") rfl), f_law_dice := _, fd_law_dice := _, F_law_dice := F_law_dice, b_law_dice := (F_law_dice.bindsN fun _ _ _ _ _ _ us hl => match us, hl with | [_, _], _ => rfl), g_law_dice := He.glo_ok X G (c.fact 17 (f := .glo "_law_dice") rfl), f_law_roll := _, fd_law_roll := _, F_law_roll := F_law_roll, b_law_roll := (F_law_roll.bindsN fun _ _ _ _ _ _ us hl => match us, hl with | [_, _], _ => rfl), g_law_roll := He.glo_ok X G (c.fact 18 (f := .glo "_law_roll") rfl), f_law_pick := _, fd_law_pick := _, F_law_pick := F_law_pick, b_law_pick := (F_law_pick.bindsN fun _ _ _ _ _ _ us hl => match us, hl with | [_, _], _ => rfl), g_law_pick := He.glo_ok X G (c.fact 19 (f := .glo "_law_pick") rfl), f_law_near := _, fd_law_near := _, F_law_near := F_law_near, b_law_near := (F_law_near.bindsN fun _ _ _ _ _ _ us hl => match us, hl with | [_, _], _ => rfl), g_law_near := He.glo_ok X G (c.fact 20 (f := .glo "_law_near") rfl), f_law_gcd := _, fd_law_gcd := _, F_law_gcd := F_law_gcd, b_law_gcd := (F_law_gcd.bindsN fun _ _ _ _ _ _ us hl => match us, hl with | [_, _], _ => rfl), g_law_gcd := He.glo_ok X G (c.fact 21 (f := .glo "_law_gcd") rfl), f_law_shared := _, fd_law_shared := _, F_law_shared := F_law_shared, b_law_shared := (F_law_shared.bindsN fun _ _ _ _ _ _ us hl => match us, hl with | [_], _ => rfl), g_law_shared := He.glo_ok X G (c.fact 22 (f := .glo "_law_shared") rfl), f_law_plus := _, fd_law_plus := _, F_law_plus := F_law_plus, b_law_plus := (F_law_plus.bindsN fun _ _ _ _ _ _ us hl => match us, hl with | [_, _], _ => rfl), g_law_plus := He.glo_ok X G (c.fact 23 (f := .glo "_law_plus") rfl), f_law_scaled := _, fd_law_scaled := _, F_law_scaled := F_law_scaled, b_law_scaled := (F_law_scaled.bindsN fun _ _ _ _ _ _ us hl => match us, hl with | [_, _], _ => rfl), g_law_scaled := He.glo_ok X G (c.fact 24 (f := .glo "_law_scaled") rfl), f_law_product := _, fd_law_product := _, F_law_product := F_law_product, b_law_product := (F_law_product.bindsN fun _ _ _ _ _ _ us hl => match us, hl with | [_, _], _ => rfl), g_law_product := He.glo_ok X G (c.fact 25 (f := .glo "_law_product") rfl), f_law_all_product := _, fd_law_all_product := _, F_law_all_product := F_law_all_product, b_law_all_product := (F_law_all_product.bindsN fun _ _ _ _ _ _ us hl => match us, hl with | [_], _ => rfl), g_law_all_product := He.glo_ok X G (c.fact 26 (f := .glo "_law_all_product") rfl), f_law_power := _, fd_law_power := _, F_law_power := F_law_power, b_law_power := (F_law_power.bindsN fun _ _ _ _ _ _ us hl => match us, hl with | [_, _], _ => rfl), g_law_power := He.glo_ok X G (c.fact 27 (f := .glo "_law_power") rfl), f_law_changed := _, fd_law_changed := _, F_law_changed := F_law_changed, b_law_changed := (F_law_changed.bindsN fun _ _ _ _ _ _ us hl => match us, hl with | [_, _], _ => rfl), g_law_changed := He.glo_ok X G (c.fact 28 (f := .glo "_law_changed") rfl), f_law_value := _, fd_law_value := _, F_law_value := F_law_value, b_law_value := (F_law_value.bindsN fun _ _ _ _ _ _ us hl => match us, hl with | [_, _, _], _ => rfl), g_law_value := He.glo_ok X G (c.fact 29 (f := .glo "_law_value") rfl), f_law_plain := _, fd_law_plain := _, F_law_plain := F_law_plain, b_law_plain := (F_law_plain.bindsN fun _ _ _ _ _ _ us hl => match us, hl with | [_], _ => rfl), g_law_plain := He.glo_ok X G (c.fact 30 (f := .glo "_law_plain") rfl), f_law_line := _, fd_law_line := _, F_law_line := F_law_line, b_law_line := (F_law_line.bindsN fun _ _ _ _ _ _ us hl => match us, hl with | [_], _ => rfl), g_law_line := He.glo_ok X G (c.fact 31 (f := .glo "_law_line") rfl), f_law_point := _, fd_law_point := _, F_law_point := F_law_point, b_law_point := (F_law_point.bindsN fun _ _ _ _ _ _ us hl => match us, hl with | [_, _], _ => rfl), g_law_point := He.glo_ok X G (c.fact 32 (f := .glo "_law_point") rfl), f_law_small_form := _, fd_law_small_form := _, F_law_small_form := F_law_small_form, b_law_small_form := (F_law_small_form.bindsN fun _ _ _ _ _ _ us hl => match us, hl with | [_, _, _], _ => rfl), g_law_small_form := He.glo_ok X G (c.fact 33 (f := .glo "_law_small_form") rfl), f_law_form := _, fd_law_form := _, F_law_form := F_law_form, b_law_form := (F_law_form.bindsN fun _ _ _ _ _ _ us hl => match us, hl with | [_, _], _ => rfl), g_law_form := He.glo_ok X G (c.fact 34 (f := .glo "_law_form") rfl), f_law_joined := _, fd_law_joined := _, F_law_joined := F_law_joined, b_law_joined := (F_law_joined.bindsN fun _ _ _ _ _ _ us hl => match us, hl with | [_, _], _ => rfl), g_law_joined := He.glo_ok X G (c.fact 35 (f := .glo "_law_joined") rfl), f_law_det := _, fd_law_det := _, F_law_det := F_law_det, b_law_det := (F_law_det.bindsN fun _ _ _ _ _ _ us hl => match us, hl with | [_], _ => rfl), g_law_det := He.glo_ok X G (c.fact 36 (f := .glo "_law_det") rfl), f_law_left_by := _, fd_law_left_by := _, F_law_left_by := F_law_left_by, b_law_left_by := (F_law_left_by.bindsN fun _ _ _ _ _ _ us hl => match us, hl with | [_, _], _ => rfl), g_law_left_by := He.glo_ok X G (c.fact 37 (f := .glo "_law_left_by") rfl), f_law_undo_by := _, fd_law_undo_by := _, F_law_undo_by := F_law_undo_by, b_law_undo_by := (F_law_undo_by.bindsN fun _ _ _ _ _ _ us hl => match us, hl with | [_, _], _ => rfl), g_law_undo_by := He.glo_ok X G (c.fact 38 (f := .glo "_law_undo_by") rfl), f_law_first_one := _, fd_law_first_one := _, F_law_first_one := F_law_first_one, b_law_first_one := (F_law_first_one.bindsN fun _ _ _ _ _ _ us hl => match us, hl with | [_, _], _ => rfl), g_law_first_one := He.glo_ok X G (c.fact 39 (f := .glo "_law_first_one") rfl), f_law_some_prime := _, fd_law_some_prime := _, F_law_some_prime := F_law_some_prime, b_law_some_prime := (F_law_some_prime.bindsN fun _ _ _ _ _ _ us hl => match us, hl with | [_], _ => rfl), g_law_some_prime := He.glo_ok X G (c.fact 40 (f := .glo "_law_some_prime") rfl), f_law_prime_table := _, fd_law_prime_table := _, F_law_prime_table := F_law_prime_table, b_law_prime_table := (F_law_prime_table.bindsN fun _ _ _ _ _ _ us hl => match us, hl with | [_, _], _ => rfl), g_law_prime_table := He.glo_ok X G (c.fact 41 (f := .glo "_law_prime_table") rfl), f_law_is_told := _, fd_law_is_told := _, F_law_is_told := F_law_is_told, b_law_is_told := (F_law_is_told.bindsN fun _ _ _ _ _ _ us hl => match us, hl with | [_, _, _], _ => rfl), g_law_is_told := He.glo_ok X G (c.fact 42 (f := .glo "_law_is_told") rfl), f_law_right := _, fd_law_right := _, F_law_right := F_law_right, b_law_right := (F_law_right.bindsN fun _ _ _ _ _ _ us hl => match us, hl with | [_], _ => rfl), g_law_right := He.glo_ok X G (c.fact 43 (f := .glo "_law_right") rfl), f_law := _, fd_law := _, F_law := F_law, b_law := (F_law.bindsN fun _ _ _ _ _ _ us hl => match us, hl with | [_], _ => rfl), g_law := He.glo_ok X G (c.fact 44 (f := .glo "law") rfl), f_Told_init := _, fd_Told_init := _, F_Told_init := F_Told_init, b_Told_init := (F_Told_init.bindsN fun _ _ _ _ _ _ us hl => match us, hl with | [_, _], _ => rfl), f_Form_init := _, fd_Form_init := _, F_Form_init := F_Form_init, b_Form_init := (F_Form_init.bindsN fun _ _ _ _ _ _ us hl => match us, hl with | [_, _], _ => rfl), f_Form_entries := _, fd_Form_entries := _, F_Form_entries := F_Form_entries, b_Form_entries := (F_Form_entries.bindsN fun _ _ _ _ _ _ us hl => match us, hl with | [_], _ => rfl), f_Form_degree := _, fd_Form_degree := _, F_Form_degree := F_Form_degree, b_Form_degree := (F_Form_degree.bindsN fun _ _ _ _ _ _ us hl => match us, hl with | [_], _ => rfl), f_PrimeForm_init := _, fd_PrimeForm_init := _, F_PrimeForm_init := F_PrimeForm_init, b_PrimeForm_init := (F_PrimeForm_init.bindsN fun _ _ _ _ _ _ us hl => match us, hl with | [_, _, _], _ => rfl), f_PrimeForm_of_form := _, fd_PrimeForm_of_form := _, F_PrimeForm_of_form := F_PrimeForm_of_form, b_PrimeForm_of_form := (F_PrimeForm_of_form.bindsN fun _ _ _ _ _ _ us hl => match us, hl with | [_, _, _], _ => rfl), f_PrimeForm_prime := _, fd_PrimeForm_prime := _, F_PrimeForm_prime := F_PrimeForm_prime, b_PrimeForm_prime := (F_PrimeForm_prime.bindsN fun _ _ _ _ _ _ us hl => match us, hl with | [_], _ => rfl), f_PrimeForm_entries := _, fd_PrimeForm_entries := _, F_PrimeForm_entries := F_PrimeForm_entries, b_PrimeForm_entries := (F_PrimeForm_entries.bindsN fun _ _ _ _ _ _ us hl => match us, hl with | [_], _ => rfl), f_PrimeForm_degree := _, fd_PrimeForm_degree := _, F_PrimeForm_degree := F_PrimeForm_degree, b_PrimeForm_degree := (F_PrimeForm_degree.bindsN fun _ _ _ _ _ _ us hl => match us, hl with | [_], _ => rfl), f_PrimeForm_is_zero := _, fd_PrimeForm_is_zero := _, F_PrimeForm_is_zero := F_PrimeForm_is_zero, b_PrimeForm_is_zero := (F_PrimeForm_is_zero.bindsN fun _ _ _ _ _ _ us hl => match us, hl with | [_], _ => rfl), f_PrimeForm_plain := _, fd_PrimeForm_plain := _, F_PrimeForm_plain := F_PrimeForm_plain, b_PrimeForm_plain := (F_PrimeForm_plain.bindsN fun _ _ _ _ _ _ us hl => match us, hl with | [_], _ => rfl), f_PrimeForm_value := _, fd_PrimeForm_value := _, F_PrimeForm_value := F_PrimeForm_value, b_PrimeForm_value := (F_PrimeForm_value.bindsN fun _ _ _ _ _ _ us hl => match us, hl with | [_, _, _], _ => rfl), f_PrimeForm_changed := _, fd_PrimeForm_changed := _, F_PrimeForm_changed := F_PrimeForm_changed, b_PrimeForm_changed := (F_PrimeForm_changed.bindsN fun _ _ _ _ _ _ us hl => match us, hl with | [_, _], _ => rfl), f_PrimeForm_mul := _, fd_PrimeForm_mul := _, F_PrimeForm_mul := F_PrimeForm_mul, b_PrimeForm_mul := (F_PrimeForm_mul.bindsN fun _ _ _ _ _ _ us hl => match us, hl with | [_, _], _ => rfl), f_PrimeForm_eq := _, fd_PrimeForm_eq := _, F_PrimeForm_eq := F_PrimeForm_eq, b_PrimeForm_eq := (F_PrimeForm_eq.bindsN fun _ _ _ _ _ _ us hl => match us, hl with | [_, _], _ => rfl), f_PrimeForm_str := _, fd_PrimeForm_str := _, F_PrimeForm_str := F_PrimeForm_str, b_PrimeForm_str := (F_PrimeForm_str.bindsN fun _ _ _ _ _ _ us hl => match us, hl with | [_], _ => rfl), C_Told := He.ga K "Told", g_Told := He.glo_ok X G (c.fact 45 (f := .glo "Told") rfl), mk_Told := He.mkr_ok (c.fact 66 (f := .mkr "Told") rfl), C_Form := He.ga K "Form", g_Form := He.glo_ok X G (c.fact 46 (f := .glo "Form") rfl), mk_Form := He.mkr_ok (c.fact 67 (f := .mkr "Form") rfl), C_PrimeForm := He.ga K "PrimeForm", g_PrimeForm := He.glo_ok X G (c.fact 47 (f := .glo "PrimeForm") rfl), mk_PrimeForm := He.mkr_ok (c.fact 68 (f := .mkr "PrimeForm") rfl), z_abs := He.free_ok X G (c.fact 48 (f := .free "abs") rfl), z_all := He.free_ok X G (c.fact 49 (f := .free "all") rfl), z_any := He.free_ok X G (c.fact 50 (f := .free "any") rfl), z_bool := He.free_ok X G (c.fact 51 (f := .free "bool") rfl), z_enumerate := He.free_ok X G (c.fact 52 (f := .free "enumerate") rfl), z_int := He.free_ok X G (c.fact 53 (f := .free "int") rfl), z_isinstance := He.free_ok X G (c.fact 54 (f := .free "isinstance") rfl), z_len := He.free_ok X G (c.fact 55 (f := .free "len") rfl), z_max := He.free_ok X G (c.fact 56 (f := .free "max") rfl), z_min := He.free_ok X G (c.fact 57 (f := .free "min") rfl), z_range := He.free_ok X G (c.fact 58 (f := .free "range") rfl), z_repr := He.free_ok X G (c.fact 59 (f := .free "repr") rfl), z_str := He.free_ok X G (c.fact 60 (f := .free "str") rfl), z_tuple := He.free_ok X G (c.fact 61 (f := .free "tuple") rfl), z_zip := He.free_ok X G (c.fact 62 (f := .free "zip") rfl), c_GREATEST := He.int_ok X G (c.fact 63 (f := .int "GREATEST" 1000000000000000000000000000000000000000000000000000000000000) rfl), c_MAX_DEGREE := He.int_ok X G (c.fact 64 (f := .int "MAX_DEGREE" 40) rfl), c_MOST_DEGREE := He.int_ok X G (c.fact 65 (f := .int "MOST_DEGREE" 12) rfl), oc_Told := OwnF.ocB_ok ex_0, a_own_row := _, sl_own_row := HookG.slotB_ok ex_1 (by decide), oc_Form := OwnF.ocB_ok ex_2, a_own_entries := _, sl_own_entries := HookG.slotB_ok ex_3 (by decide), oc_PrimeForm := OwnF.ocB_ok ex_4, a_PrimeForm_own_entries := _, sl_PrimeForm_own_entries := HookG.slotB_ok ex_5 (by decide), a_own_prime := _, sl_own_prime := HookG.slotB_ok ex_6 (by decide), mt_Told_init := HookG.mtB_ok ex_7, mt_Form_init := HookG.mtB_ok ex_8, p_Form_entries := _, pr_Form_entries := HookG.prB_ok ex_9, p_Form_degree := _, pr_Form_degree := HookG.prB_ok ex_10, mt_PrimeForm_init := HookG.mtB_ok ex_11, p_PrimeForm_of_form := _, cm_PrimeForm_of_form := OwnC.cmB_ok ex_12, p_PrimeForm_prime := _, pr_PrimeForm_prime := HookG.prB_ok ex_13, p_PrimeForm_entries := _, pr_PrimeForm_entries := HookG.prB_ok ex_14, p_PrimeForm_degree := _, pr_PrimeForm_degree := HookG.prB_ok ex_15, p_PrimeForm_is_zero := _, pr_PrimeForm_is_zero := HookG.prB_ok ex_16, p_PrimeForm_plain := _, pr_PrimeForm_plain := HookG.prB_ok ex_17, mt_PrimeForm_value := HookG.mtB_ok ex_18, mt_PrimeForm_changed := HookG.mtB_ok ex_19, mt_PrimeForm_mul := HookG.mtB_ok ex_20, mt_PrimeForm_eq := HookG.mtB_ok ex_21, mt_PrimeForm_str := HookG.mtB_ok ex_22, kit_Told_Form := HookG.dO_ok ex_23, kit_Told_PrimeForm := HookG.dO_ok ex_24, kit_Form_Told := HookG.dO_ok ex_25, kit_Form_PrimeForm := HookG.dO_ok ex_26, kit_PrimeForm_Told := HookG.dO_ok ex_27, kit_PrimeForm_Form := HookG.dO_ok ex_28, A_PRIMES := _, t_PRIMES := StatT.tupB_ok X G ex }⟩

end K49

set_option Elab.async false
set_option linter.all false
set_option maxRecDepth 100000
set_option maxHeartbeats 0
namespace K49
open PySem PySem.Spec PyProof.Rows L2
abbrev R : PySem.W.OpenRow := PySem.W.OpenLaw.row PySem.Challenge.rw_sourceforms_k49_whole_forms_over_primes
abbrev hk : PySem.W.Hook := HookG.hookW 5 faL fnL exL
def ob (s : PySem.W.SharedT) : HookG.AlG := HookG.obsGW 5 faL fnL exL (HandSHeadRun.getT s)
theorem ob_eq (s : PySem.W.SharedT) : ob s = hk.obs s.abs := HookG.obsGW_eq (HandSHeadRun.getT_eq s)
def loose0 : List Str := ["_wall", "LetterError", "InvalidForm", "InvalidTable", "InvalidPoint", "InvalidOperation", "InvalidNumber", "TooMany", "GREATEST", "is_whole", "is_short", "is_from", "are_short", "require_short", "require_from", "is_change", "require_change", "MAX_DEGREE", "product_in", "joined_entries", "power_in", "value_in", "changed_in", "is_zero_in", "Told", "are_entries", "Form", "form_of", "require_form", "sum_in"]
def loose1 : List Str := ["MOST_DEGREE", "PRIMES", "require_prime", "undone_in", "modulo", "plain_row", "determinant_in", "is_prime_table", "require_prime_table", "PrimeForm", "value_modulo", "changed_modulo", "_law_dice", "_law_roll", "_law_pick", "_law_near", "_law_gcd", "_law_shared", "_law_plus", "_law_scaled", "_law_product", "_law_all_product", "_law_power", "_law_changed", "_law_value", "_law_plain", "_law_line", "_law_point", "_law_small_form", "_law_form"]
def loose2 : List Str := ["_law_joined", "_law_det", "_law_left_by", "_law_undo_by", "_law_first_one", "_law_some_prime", "_law_prime_table", "_law_is_told", "_law_right"]
def loose : List Str := loose0 ++ loose1 ++ loose2
theorem run (w : World) : HandSHeadRun.RunEq R (PySem.W.view R.prog [74]) hk ob 9000 loose w := by
  intro os
  kernel_rfl
end K49

set_option Elab.async false
set_option linter.all false
set_option maxRecDepth 100000
set_option maxHeartbeats 4000000
namespace K49
open PySem PySem.Spec PyProof.Rows L2 MyR SlX OwnR OwnF
/-- an int of at most sixty digits -/
def Sho (i : Int) : Prop := i.natAbs < 10 ^ 60
theorem Same.rf (H : Hp) : Same H H := fun _ _ h => h
@[elab_as_elim] theorem gen_upd {G : Hp → Prop} (H : Hp) (p : Addr) (o : HO) (n : H p = none) (h : ∀ H', Same H H' → H' p = some o → G H') : G (upd H p o) := h _ (same_upd0 n) upd_same
section
variable {P : Program} {w : World} {K : PySem.W.Frag} {mg : Str → Option Value} {base : Heap}
def spWhole : Sp := fun vs H Q _ => ∃ i : Int, vs = [.int i] ∧ Q (.bl true) H
theorem ok_is_whole (T : Facts K mg) : FnOk P w K mg base CX0 1 T.f_is_whole T.fd_is_whole ["value"] spWhole := by
  refine T.F_is_whole.ok sc_is_whole (fun vs H Q E h => ?_) (fun cdv A outer s H vs Q E hr h => ?_)
  · obtain ⟨i, rfl, _⟩ := h
    rfl
  · obtain ⟨i, rfl, q⟩ := h
    refine ⟨_, (PSs.nox (pss_one (ps_ret (pe_and (pe_callB call_isi (by rfl) T.z_isinstance (by decide +kernel) (pa_cons (pv 0) (pa_cons (pe_bltn (v := .ty "int") (by rfl) T.z_int (by decide +kernel) rfl) pa_nil))) (pe_one (pe_not (pe_callB call_isi (by rfl) T.z_isinstance (by decide +kernel) (pa_cons (pv 0) (pa_cons (pe_bltn (v := .ty "bool") (by rfl) T.z_bool (by decide +kernel) rfl) pa_nil))))))))), ?_⟩
    refine ⟨_, rfl, .int i, .ty "int", .type "int", .type "int", true, rfl, .ty "int", .base (.int i), kit_ty (show kitB "int" "int" = some true by decide +kernel), true, rfl, iteT ?_⟩
    exact ⟨_, rfl, .int i, .ty "bool", .type "int", .type "bool", false, rfl, .ty "bool", .base (.int i), kit_ty (show kitB "int" "bool" = some false by decide +kernel), false, rfl, q⟩
def spShort : Sp := fun vs H Q _ => ∃ i : Int, vs = [.int i] ∧ Sho i ∧ Q (.bl true) H
theorem ok_is_short (T : Facts K mg) : FnOk P w K mg base CX0 2 T.f_is_short T.fd_is_short ["value"] spShort := by
  have G_is_whole : FnOk P w K mg base CX0 1 T.f_is_whole T.fd_is_whole ["value"] spWhole := ok_is_whole T
  refine T.F_is_short.ok sc_is_short (fun vs H Q E h => ?_) (fun cdv A outer s H vs Q E hr h => ?_)
  · obtain ⟨i, rfl, _⟩ := h
    rfl
  · obtain ⟨i, rfl, hi, q⟩ := h
    have e60 : (10 : Nat) ^ 60 = 1000000000000000000000000000000000000000000000000000000000000 := by decide
    unfold Sho at hi
    rw [e60] at hi
    refine ⟨_, (PSs.nox (pss_one (ps_ret (pe_and (pe_call G_is_whole hr (by rfl) T.g_is_whole T.F_is_whole.kp T.b_is_whole .nil pass0 (pa_cons (pv 0) pa_nil)) (pe_one (pe_chain op_lt op_lt (pe_un un_neg (pe_glob (v := .int 1000000000000000000000000000000000000000000000000000000000000) (by rfl) T.c_GREATEST.choose_spec ⟨_, rfl⟩)) (pv 0) (pe_glob (v := .int 1000000000000000000000000000000000000000000000000000000000000) (by rfl) T.c_GREATEST.choose_spec ⟨_, rfl⟩))))))), ?_⟩
    refine ⟨_, rfl, i, rfl, true, rfl, iteT ⟨_, rfl, _, rfl, _, i, rfl, rfl, true, ?_, iteT ⟨i, _, rfl, rfl, ?_⟩⟩⟩
    · show V.bl (decide (-1000000000000000000000000000000000000000000000000000000000000 < i)) = V.bl true
      rw [decide_eq_true (by omega)]
    · show Q (V.bl (decide (i < 1000000000000000000000000000000000000000000000000000000000000))) H
      rw [decide_eq_true (by omega)]
      exact q
/-- a tuple of ints -/
abbrev tp (ns : List Int) : HO := .tup (ns.map V.int)
def spAreShort : Sp := fun vs H Q _ => ∃ (t : Addr) (ns : List Int), vs = [.ref t] ∧ H t = some (tp ns) ∧ ns.length ≤ 1000 ∧ (∀ x ∈ ns, Sho x) ∧ ∀ H', Same H H' → Q (.bl true) H'
theorem ok_are_short (T : Facts K mg) : FnOk P w K mg base CX0 3 T.f_are_short T.fd_are_short ["value"] spAreShort := by
  have G_is_short : FnOk P w K mg base CX0 2 T.f_is_short T.fd_is_short ["value"] spShort := ok_is_short T
  refine T.F_are_short.ok sc_are_short (fun vs H Q E h => ?_) (fun cdv A outer s H vs Q E hr h => ?_)
  · obtain ⟨t, ns, rfl, _⟩ := h
    rfl
  · obtain ⟨t, ns, rfl, ht, hl, hs, q⟩ := h
    refine ⟨_, (PSs.nox (pss_one (ps_ret (pe_and (pe_callB call_isi (by rfl) T.z_isinstance (by decide +kernel) (pa_cons (pv 0) (pa_cons (pe_bltn (v := .ty "tuple") (by rfl) T.z_tuple (by decide +kernel) rfl) pa_nil))) (pe_one (pe_callB (cr_all (by rfl)) (by rfl) T.z_all (by decide +kernel) (pa_cons (pe_lc (own := [("entry", 1)]) (g := (gName 1)) (tt := tYes) (by rfl) sc_are_short.nd (pi_tup (pv 0)) (blkOk_by (N := N_are_short) (sc := defScope s_are_short) (by decide +kernel)) (fun _ _ _ _ _ => (pg_name (i := 1) sc_are_short.nd rfl (.inl rfl))) (fun _ _ _ _ _ => pts_nil) (fun _ _ _ _ _ => (pe_call G_is_short hr (by rfl) T.g_is_short T.F_is_short.kp T.b_is_short .nil pass0 (pa_cons (pv 1) pa_nil)))) pa_nil))))))), ?_⟩
    refine ⟨_, rfl, .ref t, .ty "tuple", .type "tuple", .type "tuple", true, rfl, .ty "tuple", .base (.tup ht), kit_ty (show kitB "tuple" "tuple" = some true by decide +kernel), true, rfl, iteT ?_⟩
    refine ⟨_, rfl, t, rfl, ⟨_, SqT.of ht⟩, fun D hD => lc_tup (xs := ns.map V.int) (fun i H' => H' = upd H D (.lst (List.replicate i (V.bl true)))) rfl (fun i H' hi hP => ?_) (fun i x H' hi hP => ?_) (fun H' hP => ?_)⟩
    · rw [hP]
      exact SqT.of (same_upd0 hD _ _ ht)
    · subst hP
      rw [List.getElem?_map] at hi
      obtain ⟨y, hy, rfl⟩ := Option.map_eq_some_iff.mp hi
      have hlt : i < ns.length := (List.getElem?_eq_some_iff.mp hy).1
      refine ⟨rfl, ⟨_, rfl, y, rfl, hs y (List.mem_of_getElem? hy), _, upd_same, ?_, ?_⟩⟩
      · rw [List.length_replicate]
        exact small1000 (by omega)
      · rw [upd_upd, List.replicate_succ']
    · subst hP
      rw [List.length_map]
      refine ⟨D, List.replicate ns.length true, rfl, SqL.of (by rw [upd_same, List.map_replicate]), ?_⟩
      have e : (List.replicate ns.length true).all id = true := by
        rw [List.all_eq_true]
        intro x hx
        rw [(List.mem_replicate.mp hx).2]
        rfl
      rw [e]
      exact q _ (same_upd0 hD)
def spAreEntries : Sp := fun vs H Q _ => ∃ (t : Addr) (ns : List Int), vs = [.ref t] ∧ H t = some (tp ns) ∧ 1 ≤ ns.length ∧ ns.length ≤ 41 ∧ (∀ x ∈ ns, Sho x) ∧ ∀ H', Same H H' → Q (.bl true) H'
theorem ok_are_entries (T : Facts K mg) : FnOk P w K mg base CX0 4 T.f_are_entries T.fd_are_entries ["value"] spAreEntries := by
  have G_are_short : FnOk P w K mg base CX0 3 T.f_are_short T.fd_are_short ["value"] spAreShort := ok_are_short T
  refine T.F_are_entries.ok sc_are_entries (fun vs H Q E h => ?_) (fun cdv A outer s H vs Q E hr h => ?_)
  · obtain ⟨t, ns, rfl, _⟩ := h
    rfl
  · obtain ⟨t, ns, rfl, ht, h1, h41, hs, q⟩ := h
    refine ⟨_, (PSs.nox (pss_one (ps_ret (pe_and (pe_call G_are_short hr (by rfl) T.g_are_short T.F_are_short.kp T.b_are_short .nil pass0 (pa_cons (pv 0) pa_nil)) (pe_one (pe_chain op_le op_le pe_int (pe_callB call_len_seq (by rfl) T.z_len (by decide +kernel) (pa_cons (pv 0) pa_nil)) (pe_op op_add (pe_glob (v := .int 40) (by rfl) T.c_MAX_DEGREE.choose_spec ⟨_, rfl⟩) pe_int))))))), ?_⟩
    refine ⟨_, rfl, t, ns, rfl, ht, by omega, hs, fun H1 s1 => ⟨true, rfl, iteT ?_⟩⟩
    have ht1 := s1 _ _ ht
    refine ⟨_, rfl, t, _, rfl, .inr (SqT.of ht1), 1, _, rfl, rfl, true, ?_, iteT ⟨_, _, rfl, rfl, _, _, rfl, rfl, ?_⟩⟩
    · rw [List.length_map]
      show V.bl (decide ((1 : Int) ≤ (ns.length : Int))) = V.bl true
      rw [decide_eq_true (by omega)]
    · rw [List.length_map]
      show Q (V.bl (decide ((ns.length : Int) ≤ 40 + 1))) H1
      rw [decide_eq_true (by omega)]
      exact q H1 s1
/-! ### making a form -/
/-- a form with these entries -/
def Fo (C : Addr) (H : Hp) (a : Addr) (ns : List Int) : Prop := ∃ dx t, H a = some (SlO a C dx [some (.ref t)]) ∧ H dx = some (.xd []) ∧ H t = some (tp ns)
theorem Fo.same {C a : Addr} {H H' : Hp} {ns : List Int} (h : Fo C H a ns) (s : Same H H') : Fo C H' a ns := by
  obtain ⟨dx, t, h1, h2, h3⟩ := h
  exact ⟨dx, t, s _ _ h1, s _ _ h2, s _ _ h3⟩
theorem Fo.slt {C a : Addr} {H : Hp} {ns : List Int} (h : Fo C H a ns) : ∃ dx t, Slt H a C dx [some (.ref t)] ∧ H t = some (tp ns) := by
  obtain ⟨dx, t, h1, h2, h3⟩ := h
  exact ⟨dx, t, .inr ⟨h1, h2⟩, h3⟩
/-- Form(entries) -/
def spForm (CT CF : Addr) : Sp := fun vs H Q _ => ∃ (x dx y t : Addr), vs = [.ref x, .ref y] ∧ Slt H x CF dx [] ∧ ((∃ dy, Slt H y CT dy [some (.ref t)]) ∨ ∃ ns, y = t ∧ H t = some (tp ns) ∧ 1 ≤ ns.length ∧ ns.length ≤ 41 ∧ ∀ z ∈ ns, Sho z) ∧ ∀ H', Same H H' → Q .non (slH H' x CF dx [some (.ref t)])
theorem Slt.same {C a dx : Addr} {vs : List (Option V)} {H H' : Hp} (h : Slt H a C dx vs) (s : Same H H') : Slt H' a C dx vs := by
  rcases h with ⟨h1, h2⟩ | ⟨h1, h2⟩
  · exact .inl ⟨s _ _ h1, h2⟩
  · exact .inr ⟨s _ _ h1, s _ _ h2⟩
theorem ok_Form_init (T : Facts K mg) : FnOk P w K mg base CX0 5 T.f_Form_init T.fd_Form_init ["self", "entries"] (spForm T.C_Told T.C_Form) := by
  have G_are_entries : FnOk P w K mg base CX0 4 T.f_are_entries T.fd_are_entries ["value"] spAreEntries := ok_are_entries T
  refine T.F_Form_init.ok sc_Form_init (fun vs H Q E h => ?_) (fun cdv A outer s H vs Q E hr h => ?_)
  · obtain ⟨x, dx, y, t, rfl, _⟩ := h
    rfl
  · obtain ⟨x, dx, y, t, rfl, hx, hy, q⟩ := h
    refine ⟨_, (PSs.nox (pss_cons (ps_if (pw_and (pt_not (pt_val (pe_callB (call_isiF T.C_Told) (by rfl) T.z_isinstance (by decide +kernel) (pa_cons (pv 1) (pa_cons (pe_glob (v := .ref T.C_Told) (by rfl) T.g_Told rfl) pa_nil))))) (pw_and1 (pt_not (pt_val (pe_call G_are_entries hr (by rfl) T.g_are_entries T.F_are_entries.kp T.b_are_entries .nil pass0 (pa_cons (pv 1) pa_nil)))))).pt
      (pss_one ps_never)
      pss_nil)
    (pss_one (ps_sl (pv 0) (pe_ifExp (pt_val (pe_callB (call_isiF T.C_Told) (by rfl) T.z_isinstance (by decide +kernel) (pa_cons (pv 1) (pa_cons (pe_glob (v := .ref T.C_Told) (by rfl) T.g_Told rfl) pa_nil)))) (pe_sl (pv 1)) (pv 1)))))), ?_⟩
    rcases hy with ⟨dy, hy⟩ | ⟨ns, rfl, ht, h1, h41, hs⟩
    · refine ⟨_, rfl, .inr ⟨y, T.C_Told, dy, _, .ref T.C_Told, true, rfl, rfl, fun w r => r, hy, T.oc_Told.scl, T.oc_Told.sis, T.oc_Told.kself, true, rfl, iteF ?_⟩⟩
      refine ⟨_, rfl, .inr ⟨y, T.C_Told, dy, _, .ref T.C_Told, true, rfl, rfl, fun w r => r, hy, T.oc_Told.scl, T.oc_Told.sis, T.oc_Told.kself, true, rfl, iteT ?_⟩⟩
      refine ⟨_, rfl, y, T.C_Told, dy, T.a_own_row, _, 0, .ref t, rfl, hy, T.oc_Told.scl, T.sl_own_row, rfl, ?_⟩
      exact ⟨_, rfl, x, T.C_Form, dx, T.a_own_entries, [], 0, rfl, hx, T.oc_Form.scl, T.sl_own_entries, q H (Same.rf H)⟩
    · refine ⟨_, rfl, .inl ⟨.ref y, .ref T.C_Told, .type "tuple", .ref T.C_Told, false, rfl, .own _, .base (.tup ht), T.oc_Told.ktup, false, rfl, iteT ?_⟩⟩
      refine ⟨_, rfl, y, ns, rfl, ht, h1, h41, hs, fun H1 s1 => ⟨true, rfl, iteF ?_⟩⟩
      refine ⟨_, rfl, .inl ⟨.ref y, .ref T.C_Told, .type "tuple", .ref T.C_Told, false, rfl, .own _, .base (.tup (s1 _ _ ht)), T.oc_Told.ktup, false, rfl, iteF ?_⟩⟩
      exact ⟨_, rfl, _, rfl, x, T.C_Form, dx, T.a_own_entries, [], 0, rfl, Slt.same hx s1, T.oc_Form.scl, T.sl_own_entries, q H1 s1⟩
/-- what making leaves -/
theorem made {C x dx : Addr} {v : V} {H' H0 : Hp} (hx : H0 x = none) (hdx : H0 dx = none) (hne : dx ≠ x) (s : Same (upd (upd H0 dx (.own x)) x (.ins C dx [])) H') : Same H0 (slH H' x C dx [some v]) := fun b o e => by
  have h1 : b ≠ x := ne_of_none e hx
  have h2 : b ≠ dx := ne_of_none e hdx
  rw [slH_ne h1 h2]
  exact s _ _ (by rw [upd_ne h1, upd_ne h2]; exact e)
end
end K49

set_option Elab.async false
set_option linter.all false
set_option maxRecDepth 100000
set_option maxHeartbeats 4000000
namespace K49
open PySem PySem.Spec PyProof.Rows L2 MyR SlX OwnR OwnF
theorem cv_snoc (x : Int) (g : Nat → Int) : ∀ (l : List Int) (k : Nat), cv (l ++ [x]) g k = cv l g k + (if l.length ≤ k then x * g (k - l.length) else 0)
  | [], k => by
    show cv (x :: []) g k = 0 + (if 0 ≤ k then x * g (k - 0) else 0)
    rw [if_pos (Nat.zero_le k), Nat.sub_zero]
    cases k with
    | zero => rw [cv_zero]; omega
    | succ k => rw [cv_succ]; show x * g (k + 1) + 0 = 0 + x * g (k + 1); omega
  | y :: ys, 0 => by
    show cv (y :: (ys ++ [x])) g 0 = cv (y :: ys) g 0 + (if ys.length + 1 ≤ 0 then _ else 0)
    rw [cv_zero, cv_zero, if_neg (by omega)]
    omega
  | y :: ys, k + 1 => by
    show cv (y :: (ys ++ [x])) g (k + 1) = cv (y :: ys) g (k + 1) + (if ys.length + 1 ≤ k + 1 then x * g (k + 1 - (ys.length + 1)) else 0)
    rw [cv_succ, cv_succ, cv_snoc x g ys k, Nat.add_sub_add_right]
    by_cases h : ys.length ≤ k
    · rw [if_pos h, if_pos (by omega)]; omega
    · rw [if_neg h, if_neg (by omega)]; omega
/-- the entries so far: i rows, and j places of the next one -/
def J (xs : List Int) (g : Nat → Int) (i j k : Nat) : Int := cv (xs.take i) g k + (if i ≤ k ∧ k < i + j then co xs i * g (k - i) else 0)
theorem J_0 {xs : List Int} {g : Nat → Int} {i k : Nat} : J xs g i 0 k = cv (xs.take i) g k := by
  unfold J
  rw [if_neg (by omega)]
  omega
theorem J_step {xs : List Int} {g : Nat → Int} {i j k : Nat} : (if k = i + j then J xs g i j (i + j) + co xs i * g j else J xs g i j k) = J xs g i (j + 1) k := by
  unfold J
  by_cases h : k = i + j
  · subst h
    rw [if_pos rfl, if_neg (by omega), if_pos (by omega), Nat.add_sub_cancel_left]
    omega
  · rw [if_neg h]
    by_cases c : i ≤ k ∧ k < i + j
    · rw [if_pos c, if_pos (by omega)]
    · rw [if_neg c, if_neg (by omega)]
theorem J_end {xs ys : List Int} {i k : Nat} (hi : i < xs.length) : J xs (co ys) i ys.length k = cv (xs.take (i + 1)) (co ys) k := by
  unfold J
  have e : xs.take (i + 1) = xs.take i ++ [xs[i]] := by rw [List.take_add_one, List.getElem?_eq_getElem hi]; rfl
  have hl : (xs.take i).length = i := by rw [List.length_take]; omega
  rw [e, cv_snoc, hl, co_get hi]
  congr 1
  by_cases c : i ≤ k
  · by_cases d : k < i + ys.length
    · rw [if_pos ⟨c, d⟩, if_pos c]
    · rw [if_neg (by omega), if_pos c, co_far (by omega), Int.mul_zero]
  · rw [if_neg (by omega), if_neg c]
def tab (L : Nat) (f : Nat → Int) : List V := (List.range L).map fun k => V.int (f k)
theorem tab_tb (L : Nat) (f : Nat → Int) : tab L f = (tb L f).map V.int := by
  unfold tab tb
  rw [List.map_map]
  rfl
theorem tab_len (L : Nat) (f : Nat → Int) : (tab L f).length = L := by
  unfold tab
  rw [List.length_map, List.length_range]
theorem tab_get {L : Nat} {f : Nat → Int} {k : Nat} (h : k < L) : (tab L f)[k]? = some (.int (f k)) := by
  unfold tab
  rw [List.getElem?_map, List.getElem?_range h]
  rfl
theorem tab_ext {L : Nat} {f g : Nat → Int} (h : ∀ k, k < L → f k = g k) : tab L f = tab L g := by
  unfold tab
  exact List.map_congr_left fun k hk => by rw [h k (List.mem_range.mp hk)]
theorem tab_none {L : Nat} {f : Nat → Int} {k : Nat} (h : L ≤ k) : (tab L f)[k]? = none := List.getElem?_eq_none (by rw [tab_len]; exact h)
theorem tab_set {L : Nat} {f : Nat → Int} {j : Nat} {v : Int} : (tab L f).set j (.int v) = tab L (fun k => if k = j then v else f k) := by
  apply List.ext_getElem?
  intro k
  by_cases hk : k < L
  · rw [tab_get hk]
    by_cases e : k = j
    · subst e
      rw [List.getElem?_set_self (by rw [tab_len]; exact hk), if_pos rfl]
    · rw [List.getElem?_set_ne (Ne.symm e), tab_get hk, if_neg e]
  · rw [tab_none (Nat.le_of_not_lt hk), List.getElem?_eq_none (by rw [List.length_set, tab_len]; exact Nat.le_of_not_lt hk)]
theorem tab_rep (n : Nat) : List.replicate n (V.int 0) = tab n fun _ => 0 := by
  unfold tab
  rw [List.map_const', List.length_range]
theorem ix_at {n : Nat} {z : Int} {j : Nat} (e : z = (j : Int)) (h : j < n) : ixN n z = some j := by
  rw [e]
  exact Evl.ixN_nat h
theorem at_of {xs : List V} {z : Int} {j : Nat} {v : V} (e : z = (j : Int)) (h : xs[j]? = some v) : atI xs z = some v := by
  rw [e]
  exact atI_nat h
/-- ints of less than 400 bits -/
def sm (x : Int) : Prop := x.natAbs < 2 ^ 4000
theorem sm_mul {x y : Int} (hx : sm x) (hy : sm y) : CMulW x y := wide_mul hx hy (by decide) (by decide) (by decide)
theorem get_int {xs : List Int} {i : Nat} (h : i < xs.length) : (xs.map V.int)[i]? = some (.int (co xs i)) := by
  rw [List.getElem?_map, List.getElem?_eq_getElem h, co_get h]
  rfl
theorem sm_co {xs : List Int} {i : Nat} (h : ∀ x ∈ xs, sm x) (hi : i < xs.length) : sm (co xs i) := by
  rw [co_get hi]
  exact h _ (List.getElem_mem hi)
section
variable {P : Program} {w : World} {K : PySem.W.Frag} {mg : Str → Option Value} {base : Heap}
def spJoin (K : PySem.W.Frag) : Sp := fun vs H Q _ => ∃ (a b : Addr) (xs ys : List Int), vs = [.ref a, .ref b] ∧ H a = some (tp xs) ∧ H b = some (tp ys) ∧ xs ≠ [] ∧ ys ≠ [] ∧ xs.length ≤ 100 ∧ ys.length ≤ 100 ∧ (∀ x ∈ xs, sm x) ∧ (∀ x ∈ ys, sm x) ∧ ∀ p H', Same H H' → H p = none → H' p = some (tp (ml xs ys)) → Q (.ref p) H'
theorem ok_joined_entries (T : Facts K mg) : FnOk P w K mg base CX0 1 T.f_joined_entries T.fd_joined_entries ["one", "other"] (spJoin K) := by
  refine T.F_joined_entries.ok sc_joined_entries (fun vs H Q E h => ?_) (fun cdv A outer s H vs Q E hr h => ?_)
  · obtain ⟨a, b, xs, ys, rfl, _⟩ := h
    rfl
  · obtain ⟨a, b, xs, ys, rfl, ha, hb, nx, ny, lx, ly, hx, hy, q⟩ := h
    have px : 0 < xs.length := List.length_pos_iff.mpr nx
    have py : 0 < ys.length := List.length_pos_iff.mpr ny
    refine ⟨_, (PSs.nox (pss_cons (ps_setLc (i := 2) (own := [("place", 3)]) (g := (gName 3)) (tt := tYes) rfl sc_joined_entries.nd rfl rfl (sw_true rfl rfl rfl (by decide +kernel)) (pi_range1 (by rfl) T.z_range (pa_cons (pe_op op_sub (pe_op op_add (pe_callB call_len_seq (by rfl) T.z_len (by decide +kernel) (pa_cons (pv 0) pa_nil)) (pe_callB call_len_seq (by rfl) T.z_len (by decide +kernel) (pa_cons (pv 1) pa_nil))) pe_int) pa_nil)) (blkOk_by (N := N_joined_entries) (sc := defScope s_joined_entries) (by decide +kernel)) (fun _ _ _ _ _ => (pg_name (i := 3) sc_joined_entries.nd rfl (.inl rfl))) (fun _ _ _ _ _ => pts_nil) (fun _ _ _ _ _ => pe_int))
    (pss_cons (ps_for PassesOwn.never (by rfl) (pi_range1 (by rfl) T.z_range (pa_cons (pe_callB call_len_seq (by rfl) T.z_len (by decide +kernel) (pa_cons (pv 0) pa_nil)) pa_nil)) (pg_name (i := 4) sc_joined_entries.nd rfl (.inl rfl))
      (pss_one (ps_for PassesOwn.never (by rfl) (pi_range1 (by rfl) T.z_range (pa_cons (pe_callB call_len_seq (by rfl) T.z_len (by decide +kernel) (pa_cons (pv 1) pa_nil)) pa_nil)) (pg_name (i := 3) sc_joined_entries.nd rfl (.inl rfl))
        (pss_one (ps_asg (pe_op op_add (pe_ix ix_list (pv 2) (pe_op op_add (pv 4) (pv 3)) (fun _ _ => rfl)) (pe_op op_mulW (pe_ix ix_tup (pv 0) (pv 4) (fun _ _ => rfl)) (pe_ix ix_tup (pv 1) (pv 3) (fun _ _ => rfl)))) (pg_sub (pv 2) (pe_op op_add (pv 4) (pv 3)) set_list))))))
    (pss_one (ps_ret (pe_tupleOf (by rfl) T.z_tuple (pv 2))))))), ?_⟩
    refine ⟨_, rfl, a, _, rfl, .inr (SqT.of ha), _, rfl, b, _, rfl, .inr (SqT.of hb), ?_⟩
    rw [List.length_map, List.length_map]
    obtain ⟨N, hN⟩ : ∃ N, N = xs.length + ys.length - 1 := ⟨_, rfl⟩
    have eN : (((xs.length : Int) + (ys.length : Int) - 1)).toNat = N := by omega
    refine ⟨_, _, rfl, rfl, _, _, rfl, rfl, _, rfl, (by show -(2 ^ 62) ≤ (xs.length : Int) + (ys.length : Int) - 1; omega), (by show (xs.length : Int) + (ys.length : Int) - 1 < 2 ^ 62; omega), fun D hD => lc_range (n := _) (fun j H' => H' = upd H D (.lst (List.replicate j (V.int 0)))) rfl (fun j H' hj hP => ?_) (fun H' hP => ?_)⟩
    · subst hP
      have hj2 : j < N := by rw [← eN]; exact hj
      refine ⟨rfl, ⟨_, upd_same, ?_, ?_⟩⟩
      · rw [List.length_replicate]
        exact small1000 (by omega)
      · rw [upd_upd, List.replicate_succ']
    · subst hP
      show _
      rw [show List.replicate (((xs.length : Int) + (ys.length : Int) - 1)).toNat (V.int 0) = tab N (fun k => cv (xs.take 0) (co ys) k) by rw [eN, tab_rep]; rfl]
      have sD : ∀ o, Same H (upd H D o) := fun o => same_upd0 hD
      refine ⟨_, rfl, a, _, rfl, .inr (SqT.of (sD _ _ _ ha)), ?_⟩
      rw [List.length_map]
      refine ⟨xs.length, rfl, by omega, by omega, for_range (n := (xs.length : Int).toNat) (fun i σ H' => ∃ y3 y4, σ = [some (.ref a), some (.ref b), some (.ref D), y3, y4] ∧ H' = upd H D (.lst (tab N fun k => cv (xs.take i) (co ys) k))) ⟨none, none, rfl, rfl⟩ (fun i σ H' hi hP => ?_) (fun σ H' hP => ?_)⟩
      · obtain ⟨y3, y4, rfl, rfl⟩ := hP
        have hi2 : i < xs.length := by omega
        refine ⟨_, rfl, b, _, rfl, .inr (SqT.of (sD _ _ _ hb)), ?_⟩
        rw [List.length_map, tab_ext (g := J xs (co ys) i 0) fun k hk => J_0.symm]
        refine ⟨ys.length, rfl, by omega, by omega, for_range (n := (ys.length : Int).toNat) (fun j σ H' => ∃ y3, σ = [some (.ref a), some (.ref b), some (.ref D), y3, some (.int (0 + (i : Int)))] ∧ H' = upd H D (.lst (tab N (J xs (co ys) i j)))) ⟨y3, rfl, rfl⟩ (fun j σ H' hj hP => ?_) (fun σ H' hP => ?_)⟩
        · obtain ⟨y3, rfl, rfl⟩ := hP
          have hj2 : j < ys.length := by omega
          have e1 : (0 : Int) + (i : Int) + (0 + (j : Int)) = ((i + j : Nat) : Int) := by omega
          have e2 : (0 : Int) + (i : Int) = ((i : Nat) : Int) := by omega
          have e3 : (0 : Int) + (j : Int) = ((j : Nat) : Int) := by omega
          refine ⟨_, rfl, _, rfl, _, rfl, _, _, rfl, rfl, D, _, _, _, rfl, rfl, SqL.of upd_same, at_of e1 (tab_get (by omega)), _, rfl, _, rfl, a, _, _, _, rfl, rfl, SqT.of (sD _ _ _ ha), at_of e2 (get_int hi2), _, rfl, _, rfl, b, _, _, _, rfl, rfl, SqT.of (sD _ _ _ hb), at_of e3 (get_int hj2), _, _, rfl, rfl, sm_mul (sm_co hx hi2) (sm_co hy hj2), _, _, rfl, rfl, ?_⟩
          refine ⟨_, rfl, _, rfl, _, rfl, _, _, rfl, rfl, D, _, _, (i + j), rfl, rfl, upd_same, ?_, ?_⟩
          · rw [tab_len]
            exact ix_at e1 (by omega)
          · refine ⟨_, rfl, ?_⟩
            rw [upd_upd]
            show upd H D (.lst ((tab N (J xs (co ys) i j)).set (i + j) (.int (J xs (co ys) i j (i + j) + co xs i * co ys j)))) = _
            rw [tab_set, tab_ext fun k hk => J_step]
        · obtain ⟨y3, rfl, rfl⟩ := hP
          refine ⟨_, _, rfl, ?_⟩
          rw [Int.toNat_natCast, tab_ext fun k hk => J_end hi2]
      · obtain ⟨y3, y4, rfl, rfl⟩ := hP
        rw [Int.toNat_natCast, List.take_length, tab_tb]
        refine ⟨_, rfl, ?_⟩
        refine .inl ⟨D, _, rfl, SqL.of upd_same, fun p hp => ?_⟩
        refine q p _ ((sD _).trans (same_upd0 hp)) (Same.free (sD _) hp) ?_
        rw [upd_same, hN]
        rfl
end
end K49

set_option Elab.async false
set_option linter.all false
set_option maxRecDepth 100000
set_option maxHeartbeats 4000000
namespace K49
open PySem PySem.Spec PyProof.Rows L2 StX RZ MyR SlX OwnR OwnF
/-- a comprehension over zip of two tuples of one length -/
theorem lc_zipT {K : PySem.W.Frag} {a b : Addr} {xs ys : List V} {g : TG} {tt : TT} {te : TE} {vs : List Nat} {σ : L2.St} {H1 : Hp} {D : Addr} {Qd : Hp → Prop} (hl : xs.length = ys.length) (Pv : Nat → Hp → Prop) (h0 : Pv 0 (upd H1 D (.lst []))) (hq : ∀ i H, i ≤ xs.length → Pv i H → SqT K H a xs ∧ SqT K H b ys)
    (hs : ∀ (i : Nat) (x y : V) (T : Addr) (H : Hp), xs[i]? = some x → ys[i]? = some y → Pv i H → H T = none → g (.ref T) (wipe σ vs) (upd H T (.tup [x, y])) fun σ2 H2 => wipe σ2 vs = wipe σ vs ∧ tt σ2 H2 fun b H3 =>
      if b = true then te σ2 H3 fun y H4 => ∃ acc, H4 D = some (.lst acc) ∧ acc.length < sizeLine ∧ Pv (i + 1) (upd H4 D (.lst (acc ++ [y]))) else Pv (i + 1) H3) (hd : ∀ H, Pv xs.length H → Qd H) :
    ∃ W : Nat → Nat → Hp → Prop, (∃ m, W 0 m (upd H1 D (.lst []))) ∧ ∀ i m H, W i m H →
      ((ItzT K a b).stop i H ∧ Qd H) ∨ ((ItzT K a b).go i H ∧ ∃ Nx : Hp → Prop, (∀ H', Nx H' → ∃ m', m' < m ∧ W (i + 1) m' H') ∧ ∀ x H', (ItzT K a b).yld i H x H' → g x (wipe σ vs) H' fun σ2 H2 => wipe σ2 vs = wipe σ vs ∧ tt σ2 H2 fun b H3 =>
        if b = true then te σ2 H3 fun y H4 => ∃ acc, H4 D = some (.lst acc) ∧ acc.length < sizeLine ∧ Nx (upd H4 D (.lst (acc ++ [y]))) else Nx H3) := by
  refine ⟨fun i m H => m = xs.length - i ∧ i ≤ xs.length ∧ Pv i H, ⟨xs.length, by simp, Nat.zero_le _, h0⟩, ?_⟩
  rintro i m H ⟨rfl, hi, p⟩
  obtain ⟨qx, qy⟩ := hq i H hi p
  by_cases hlt : i < xs.length
  · have hlt2 : i < ys.length := by omega
    have hx : xs[i]? = some xs[i] := List.getElem?_eq_getElem hlt
    have hy : ys[i]? = some ys[i] := List.getElem?_eq_getElem hlt2
    refine .inr ⟨⟨xs, ys, _, _, qx, qy, hx, hy⟩, Pv (i + 1), fun H' p' => ⟨xs.length - (i + 1), by omega, rfl, hlt, p'⟩, fun v H' y => ?_⟩
    obtain ⟨T, x', y', rfl, hT, rfl, f1, f2⟩ := y
    exact hs i x' y' T H (f1 xs qx) (f2 ys qy) p hT
  · have e : i = xs.length := by omega
    subst e
    exact .inl ⟨⟨xs, ys, qx, qy, Or.inl (Nat.le_refl _)⟩, hd H p⟩
/-- the sign of the first entry that is not 0 -/
def sg : List Int → Int
  | [] => 1
  | x :: xs => if x = 0 then sg xs else if 0 < x then 1 else -1
theorem sg_cases : ∀ l : List Int, sg l = 1 ∨ sg l = -1
  | [] => .inl rfl
  | x :: xs => by
    unfold sg
    split
    · exact sg_cases xs
    · split
      · exact .inl rfl
      · exact .inr rfl
def part (l : List Int) : Int := (cont l : Int) * sg l
theorem part_abs (l : List Int) : (part l).natAbs = cont l := by
  unfold part
  rw [Int.natAbs_mul]
  rcases sg_cases l with e | e <;> rw [e] <;> simp
theorem sm_cont {l : List Int} (h : ∀ x ∈ l, sm x) : cont l < 2 ^ 4000 := by
  by_cases c : ∃ x ∈ l, x ≠ 0
  · obtain ⟨x, hx, h0⟩ := c
    have h1 := Int.natAbs_dvd_natAbs.mpr (cont_dvd l x hx)
    have h2 := Nat.le_of_dvd (Int.natAbs_pos.mpr h0) h1
    exact Nat.lt_of_le_of_lt h2 (h x hx)
  · have hz : ∀ l : List Int, (∀ x ∈ l, x = 0) → cont l = 0 := by
      intro l
      induction l with
      | nil => intro _; rfl
      | cons y ys ih =>
        intro hl
        show Nat.gcd y.natAbs (cont ys) = 0
        rw [ih fun x hx => hl x (List.mem_cons_of_mem _ hx), hl y List.mem_cons_self]
        rfl
    rw [hz l fun x hx => Classical.byContradiction fun q => c ⟨x, hx, q⟩]
    decide
theorem sm_part {l : List Int} (h : ∀ x ∈ l, sm x) : sm (part l) := by
  show (part l).natAbs < _
  rw [part_abs]
  exact sm_cont h
/-- divided by its content, the first entry that is not 0 above 0 -/
def prim (l : List Int) : List Int := if part l = 0 then l else l.map fun x => x.fdiv (part l)
theorem tb_map (f : Int → Int) (l : List Int) : (tb l.length fun k => f (co l k)) = l.map f := by
  conv => rhs; rw [← tb_co l]
  unfold tb
  rw [List.map_map]
  rfl
section
variable {P : Program} {w : World} {K : PySem.W.Frag} {mg : Str → Option Value} {base : Heap}
def spPrim : Sp := fun vs H Q _ => ∃ (t : Addr) (ns : List Int), vs = [.ref t] ∧ H t = some (tp ns) ∧ ns.length ≤ 1000 ∧ (∀ x ∈ ns, sm x) ∧ ∀ p H', Same H H' → H' p = some (tp (prim ns)) → Q (.ref p) H'
/-- the sum of one row and a multiple of the other -/
def zs (c : Int) (xs ys : List Int) : List Int := List.zipWith (fun x y => x + c * y) xs ys
end
end K49

set_option Elab.async false
set_option linter.all false
set_option maxRecDepth 100000
set_option maxHeartbeats 4000000
namespace K49
open PySem PySem.Spec PyProof.Rows L2 StX RZ MyR SlX OwnR OwnF
/-! ### == of tuples of ints -/
theorem dpAll_ints {K : PySem.W.Frag} {H : Hp} : ∀ ns : List Int, DpAll K H (ns.map V.int) (ns.map PyData.int)
  | [] => .nil
  | n :: r => .cons (.int n) (dpAll_ints r)
theorem lay_ints : ∀ ns : List Int, PyData.canLayAll0 (ns.map PyData.int) = true
  | [] => rfl
  | n :: r => by
    show (PyData.canLay0 (.int n) && PyData.canLayAll0 (r.map PyData.int)) = true
    rw [lay_ints r]
    rfl
theorem depth_ints : ∀ ns : List Int, PyData.depthAll (ns.map PyData.int) = 0
  | [] => rfl
  | n :: r => by
    show max (PyData.depth (.int n)) (PyData.depthAll (r.map PyData.int)) = 0
    rw [depth_ints r]
    rfl
theorem shaped_tints (ns : List Int) : SeqAt.shaped (.tuple (ns.map PyData.int)) = true := by
  unfold SeqAt.shaped
  rw [show PyData.canLay0 (.tuple (ns.map PyData.int)) = PyData.canLayAll0 (ns.map PyData.int) from rfl, lay_ints]
  rw [show PyData.depth (.tuple (ns.map PyData.int)) = PyData.depthAll (ns.map PyData.int) + 1 from rfl, depth_ints]
  rfl
/-! ### the properties, the operators -/
section
variable {P : Program} {w : World} {K : PySem.W.Frag} {mg : Str → Option Value} {base : Heap}
def spEnt (C : Addr) : Sp := fun vs H Q _ => ∃ (a : Addr) (ns : List Int), vs = [.ref a] ∧ Fo C H a ns ∧ ∀ t, H t = some (tp ns) → Q (.ref t) H
theorem ok_Form_entries (T : Facts K mg) : FnOk P w K mg base CX0 1 T.f_Form_entries T.fd_Form_entries ["self"] (spEnt T.C_Form) := by
  refine T.F_Form_entries.ok sc_Form_entries (fun vs H Q E h => ?_) (fun cdv A outer s H vs Q E hr h => ?_)
  · obtain ⟨a, ns, rfl, _⟩ := h
    rfl
  · obtain ⟨a, ns, rfl, fa, q⟩ := h
    obtain ⟨dx, t, ha, ht⟩ := fa.slt
    refine ⟨_, (PSs.nox (pss_one (ps_ret (pe_sl (pv 0))))), ?_⟩
    exact ⟨_, rfl, a, T.C_Form, dx, T.a_own_entries, _, 0, .ref t, rfl, ha, T.oc_Form.scl, T.sl_own_entries, rfl, q t ht⟩
def spDeg (C : Addr) : Sp := fun vs H Q _ => ∃ (a : Addr) (ns : List Int), vs = [.ref a] ∧ Fo C H a ns ∧ Q (.int ((ns.length : Int) - 1)) H
theorem ok_Form_degree (T : Facts K mg) : FnOk P w K mg base CX0 1 T.f_Form_degree T.fd_Form_degree ["self"] (spDeg T.C_Form) := by
  refine T.F_Form_degree.ok sc_Form_degree (fun vs H Q E h => ?_) (fun cdv A outer s H vs Q E hr h => ?_)
  · obtain ⟨a, ns, rfl, _⟩ := h
    rfl
  · obtain ⟨a, ns, rfl, fa, q⟩ := h
    obtain ⟨dx, t, ha, ht⟩ := fa.slt
    refine ⟨_, (PSs.nox (pss_one (ps_ret (pe_op op_sub (pe_callB call_len_seq (by rfl) T.z_len (by decide +kernel) (pa_cons (pe_sl (pv 0)) pa_nil)) pe_int)))), ?_⟩
    refine ⟨_, rfl, a, T.C_Form, dx, T.a_own_entries, _, 0, .ref t, rfl, ha, T.oc_Form.scl, T.sl_own_entries, rfl, t, _, rfl, .inr (SqT.of ht), _, _, rfl, rfl, ?_⟩
    rw [List.length_map]
    exact q
/-- what is asked of a form's row -/
structure Rw (ns : List Int) : Prop where
  ne : ns ≠ []
  len : ns.length ≤ 100
  sm : ∀ x ∈ ns, sm x
/-- isinstance(x, Form), x a form -/
theorem isi_form {X : Cx} {C b dy : Addr} {vs : List (Option V)} {H : Hp} {Q : VK} (c : OC X.K C) (hb : Slt H b C dy vs) (q : Q (.bl true) H) : rIsi X.K [.ref b, .ref C] H Q ∨ rIsiSl X.K (.ref C) [.ref b, .ref C] H Q :=
  .inr ⟨b, C, dy, vs, .ref C, true, rfl, rfl, fun w r => r, hb, c.scl, c.sis, c.kself, q⟩
end
end K49

set_option Elab.async false
set_option linter.all false
set_option maxRecDepth 100000
set_option maxHeartbeats 4000000
namespace K49
open PySem PySem.Spec PyProof.Rows L2 StX RZ MyR SlX OwnR OwnF
theorem eqvAll_ints : ∀ xs ys : List Int, PyData.eqvAll (xs.map PyData.int) (ys.map PyData.int) = decide (xs = ys)
  | [], [] => rfl
  | [], _ :: _ => rfl
  | _ :: _, [] => rfl
  | x :: xs, y :: ys => by
    show (PyData.eqv (.int x) (.int y) && PyData.eqvAll (xs.map PyData.int) (ys.map PyData.int)) = _
    rw [eqvAll_ints xs ys]
    show ((x == y) && decide (xs = ys)) = decide (x :: xs = y :: ys)
    by_cases h : x = y
    · by_cases k : xs = ys
      · subst h k
        simp
      · rw [decide_eq_false k, decide_eq_false fun z => k (List.cons.inj z).2, Bool.and_false]
    · rw [decide_eq_false fun z => h (List.cons.inj z).1, beq_eq_false_iff_ne.mpr h, Bool.false_and]
theorem eqv_ints (xs ys : List Int) : PyData.eqv (.tuple (xs.map PyData.int)) (.tuple (ys.map PyData.int)) = decide (xs = ys) := eqvAll_ints xs ys
theorem eq_ints {K : PySem.W.Frag} {H : Hp} {a b : Addr} {xs ys : List Int} {Q : VK} (ha : SqT K H a (xs.map V.int)) (hb : SqT K H b (ys.map V.int)) (q : Q (.bl (decide (xs = ys))) H) : rEqD K (.ref a) (.ref b) H Q := by
  refine ⟨_, _, .tup ha (dpAll_ints xs), .tup hb (dpAll_ints ys), shaped_tints xs, shaped_tints ys, ?_⟩
  rw [eqv_ints]
  exact q
theorem ne_ints {K : PySem.W.Frag} {H : Hp} {a b : Addr} {xs ys : List Int} {Q : VK} (ha : SqT K H a (xs.map V.int)) (hb : SqT K H b (ys.map V.int)) (q : Q (.bl (!decide (xs = ys))) H) : rNeD K (.ref a) (.ref b) H Q := by
  refine ⟨_, _, .tup ha (dpAll_ints xs), .tup hb (dpAll_ints ys), shaped_tints xs, shaped_tints ys, ?_⟩
  rw [eqv_ints]
  exact q
section
variable {P : Program} {w : World} {K : PySem.W.Frag} {mg : Str → Option Value} {base : Heap}
end
end K49

set_option Elab.async false
set_option linter.all false
set_option maxRecDepth 100000
set_option maxHeartbeats 4000000
namespace K49
open PySem PySem.Spec PyProof.Rows L2 StX RZ MyR SlX OwnR OwnF
abbrev dice (x y z : Int) : HO := .lst [.int x, .int y, .int z]
/-- all but the dice is as it was -/
def Sx (a : Addr) (H H' : Hp) : Prop := ∀ b o, b ≠ a → H b = some o → H' b = some o
def Dc (H : Hp) (a : Addr) : Prop := ∃ x y z, H a = some (dice x y z)
theorem Sx.trans {a : Addr} {H H1 H2 : Hp} (s : Sx a H H1) (t : Sx a H1 H2) : Sx a H H2 := fun b o n h => t b o n (s b o n h)
theorem Sx.of {a : Addr} {H H' : Hp} (s : Same H H') : Sx a H H' := fun b o _ h => s b o h
theorem Sx.upd {a : Addr} {H : Hp} {o : HO} : Sx a H (upd H a o) := fun b u n h => by
  rw [upd_ne n]
  exact h
theorem Dc.same {a : Addr} {H H' : Hp} (d : Dc H a) (s : Same H H') : Dc H' a := by
  obtain ⟨x, y, z, e⟩ := d
  exact ⟨x, y, z, s _ _ e⟩
theorem Dc.ne {a p : Addr} {H : Hp} (d : Dc H a) (n : H p = none) : p ≠ a := fun e => by
  obtain ⟨x, y, z, h⟩ := d
  rw [e, h] at n
  cases n
theorem Sx.free {a p : Addr} {H H' : Hp} (s : Sx a H H') (n : H' p = none) (ne : p ≠ a) : H p = none := by
  cases q : H p with
  | none => rfl
  | some o =>
    rw [s p o ne q] at n
    cases n
theorem script_Sx {K : PySem.W.Frag} {d a : Addr} {H H' : Hp} {o : HO} {xs : List V} (s : Sx d (upd H d o) H') (n : H d = none) (h : SqL K H a xs) : SqL K H' a xs := by
  rcases h with (h | ⟨u, h⟩) | h
  · have ne : a ≠ d := ne_of_none h n
    exact .inl (.inl (s a _ ne (by rw [upd_ne ne]; exact h)))
  · have ne : a ≠ d := ne_of_none h n
    exact .inl (.inr ⟨u, s a _ ne (by rw [upd_ne ne]; exact h)⟩)
  · exact .inr h
section
variable {P : Program} {w : World} {K : PySem.W.Frag} {mg : Str → Option Value} {base : Heap}
theorem cp16 : CPow 10 16 := ⟨by decide, by decide, by decide⟩
theorem cp60 : CPow 10 60 := ⟨by decide, by decide, by decide⟩
theorem cw60 : CMulW (10 ^ Int.toNat 60) (10 ^ Int.toNat 60) := by
  unfold CMulW
  decide +kernel
theorem pos60 : (0 : Int) < 10 ^ Int.toNat 60 * 10 ^ Int.toNat 60 := by decide +kernel
theorem pos_m : (0 : Int) < 1152921504606846697 := by decide
theorem sz3 : 3 ≤ sizeLine := by decide
def spDice (K : PySem.W.Frag) : Sp := fun vs H Q _ => ∃ (a : Addr) (ns : List Int) (k : Nat), vs = [.ref a, .int k] ∧ SqL K H a (ns.map V.int) ∧ ∀ p x y z, H p = none → Q (.ref p) (upd H p (dice x y z))
theorem ok_law_dice (T : Facts K mg) : FnOk P w K mg base CX0 1 T.f_law_dice T.fd_law_dice ["_law_script", "_law_spot"] (spDice K) := by
  refine T.F_law_dice.ok sc_law_dice (fun vs H Q E h => ?_) (fun cdv A outer s H vs Q E hr h => ?_)
  · obtain ⟨a, ns, k, rfl, _⟩ := h
    rfl
  · obtain ⟨a, ns, k, rfl, hS, q⟩ := h
    refine ⟨_, (PSs.nox (pss_cons (ps_set (i := 2) sc_law_dice.nd rfl (.inl rfl) (pe_ifExp (pt_cmpR op_lt (pv 1) (pe_callB call_len_seq (by rfl) T.z_len (by decide +kernel) (pa_cons (pv 0) pa_nil)) (nomark _)) (pe_callTy call_int1 (by rfl) T.z_int (by decide +kernel) (pa_cons (pe_ix ix_list (pv 0) (pv 1) (fun _ _ => rfl)) pa_nil)) (pe_op op_add (pe_op op_mul pe_int (pv 1)) pe_int)))
    (pss_cons (ps_set (i := 3) sc_law_dice.nd rfl (.inl rfl) (pe_op op_mod (pe_callB (call_max2 (by rfl)) (by rfl) T.z_max (by decide +kernel) (pa_cons pe_int (pa_cons (pe_op op_sub (pe_callB call_abs (by rfl) T.z_abs (by decide +kernel) (pa_cons (pv 2) pa_nil)) (pe_op op_pow pe_int pe_int)) pa_nil))) (pe_op op_mulW (pe_op op_pow pe_int pe_int) (pe_op op_pow pe_int pe_int))))
    (pss_one (ps_ret (pe_lst (pa_cons (pv 3) (pa_cons (pe_op op_add (pe_op op_add (pe_op op_add (pe_op op_mul (pe_op op_mod (pe_callB call_abs (by rfl) T.z_abs (by decide +kernel) (pa_cons (pv 2) pa_nil)) pe_int) pe_int) (pe_op op_mul pe_int (pv 1))) (pe_op op_mul pe_int (pe_callTy call_int1 (by rfl) T.z_int (by decide +kernel) (pa_cons (pe_cmpR op_lt (pv 2) pe_int (nomark _)) pa_nil)))) pe_int) (pa_cons pe_int pa_nil))))))))), ?_⟩
    refine ⟨.int k, rfl, .ref a, rfl, a, ns.map V.int, rfl, .inl hS, k, _, rfl, rfl, _, rfl, ?_⟩
    rw [List.length_map]
    by_cases h1 : (k : Int) < (ns.length : Int)
    · rw [decide_eq_true h1]
      have hj : k < ns.length := by omega
      refine iteT ⟨.ref a, rfl, .int k, rfl, a, ns.map V.int, k, .int ns[k], rfl, rfl, hS, atI_nat (by rw [List.getElem?_map, List.getElem?_eq_getElem hj]; rfl), .inl ⟨_, rfl, ?_⟩⟩
      refine ⟨.int ns[k], rfl, _, rfl, 10, 16, rfl, rfl, cp16, _, _, rfl, rfl, 0, _, rfl, 10, 60, rfl, rfl, cp60, 10, 60, rfl, rfl, cp60, _, _, rfl, rfl, cw60, _, _, rfl, rfl, pos60, ?_⟩
      refine ⟨_, rfl, .int ns[k], rfl, _, rfl, _, _, rfl, rfl, pos_m, _, _, rfl, rfl, .inr ⟨by decide, by decide⟩, .int k, rfl, _, _, rfl, rfl, .inl ⟨by decide, by decide⟩, _, _, rfl, rfl, .int ns[k], rfl, _, _, rfl, rfl, .inr ⟨_, rfl, _, _, rfl, rfl, .inl ⟨by decide, by decide⟩, _, _, rfl, rfl, _, _, rfl, rfl, ?_⟩⟩
      exact ⟨sz3, fun p hp => q p _ _ _ hp⟩
    · rw [decide_eq_false h1]
      refine iteF ⟨.int k, rfl, _, _, rfl, rfl, .inl ⟨by decide, by decide⟩, _, _, rfl, rfl, ?_⟩
      refine ⟨_, rfl, _, rfl, 10, 16, rfl, rfl, cp16, _, _, rfl, rfl, 0, _, rfl, 10, 60, rfl, rfl, cp60, 10, 60, rfl, rfl, cp60, _, _, rfl, rfl, cw60, _, _, rfl, rfl, pos60, ?_⟩
      refine ⟨_, rfl, _, rfl, _, rfl, _, _, rfl, rfl, pos_m, _, _, rfl, rfl, .inr ⟨by decide, by decide⟩, .int k, rfl, _, _, rfl, rfl, .inl ⟨by decide, by decide⟩, _, _, rfl, rfl, _, rfl, _, _, rfl, rfl, .inr ⟨_, rfl, _, _, rfl, rfl, .inl ⟨by decide, by decide⟩, _, _, rfl, rfl, _, _, rfl, rfl, ?_⟩⟩
      exact ⟨sz3, fun p hp => q p _ _ _ hp⟩
def spRoll : Sp := fun vs H Q _ => ∃ (a : Addr) (x y z n : Int), vs = [.ref a, .int n] ∧ H a = some (dice x y z) ∧ 0 < n ∧ n.natAbs.log2 < 9000 ∧ ∀ r x' z', 0 ≤ r → r < n → Q (.int r) (upd H a (dice x' y z'))
theorem ok_law_roll (T : Facts K mg) : FnOk P w K mg base CX0 1 T.f_law_roll T.fd_law_roll ["_law_dice_here", "_law_total"] spRoll := by
  refine T.F_law_roll.ok sc_law_roll (fun vs H Q E h => ?_) (fun cdv A outer s H vs Q E hr h => ?_)
  · obtain ⟨a, x, y, z, n, rfl, _⟩ := h
    rfl
  · obtain ⟨a, x, y, z, n, rfl, hd, h0, h1, q⟩ := h
    have hS : SqL K H a [.int x, .int y, .int z] := SqL.of hd
    refine ⟨_, (PSs.nox (pss_cons (ps_if (pt_cmpR op_gt (pe_ix ix_list (pv 0) pe_int (fun _ _ => rfl)) pe_int (nomark _))
      (pss_cons (ps_set (i := 2) sc_law_roll.nd rfl (.inl rfl) (pe_op op_mod (pe_callTy call_int1 (by rfl) T.z_int (by decide +kernel) (pa_cons (pe_ix ix_list (pv 0) pe_int (fun _ _ => rfl)) pa_nil)) (pv 1)))
      (pss_cons (ps_asg (pe_op op_fdivW (pe_ix ix_list (pv 0) pe_int (fun _ _ => rfl)) (pv 1)) (pg_sub (pv 0) pe_int set_list))
      (pss_one (ps_ret (pv 2)))))
      pss_nil)
    (pss_cons (ps_asg (pe_op op_add (pe_ix ix_list (pv 0) pe_int (fun _ _ => rfl)) pe_int) (pg_sub (pv 0) pe_int set_list))
    (pss_cons (ps_set (i := 3) sc_law_roll.nd rfl (.inl rfl) (pe_op op_mod (pe_callTy call_int1 (by rfl) T.z_int (by decide +kernel) (pa_cons (pe_op op_add (pe_ix ix_list (pv 0) pe_int (fun _ _ => rfl)) (pe_op op_mul pe_int (pe_ix ix_list (pv 0) pe_int (fun _ _ => rfl)))) pa_nil)) pe_int))
    (pss_cons (ps_set (i := 4) sc_law_roll.nd rfl (.inl rfl) (pe_op op_add (pe_op op_mul (pe_op op_mod (pe_callTy call_int1 (by rfl) T.z_int (by decide +kernel) (pa_cons (pe_op op_add (pe_op op_mul (pv 3) (pv 3)) (pe_op op_mul pe_int (pe_ix ix_list (pv 0) pe_int (fun _ _ => rfl)))) pa_nil)) pe_int) pe_int) (pv 3)))
    (pss_one (ps_ret (pe_op op_mod (pe_callTy call_int1 (by rfl) T.z_int (by decide +kernel) (pa_cons (pe_op op_fdivW (pv 4) pe_int) pa_nil)) (pv 1))))))))), ?_⟩
    refine ⟨.ref a, rfl, a, _, 0, .int x, rfl, rfl, hS, atI_nat (j := 0) rfl, x, 0, rfl, rfl, decide (0 < x), rfl, ite2 (fun _ => ?_) (fun _ => ?_)⟩
    · refine ⟨.ref a, rfl, a, _, 0, .int x, rfl, rfl, hS, atI_nat (j := 0) rfl, .inl ⟨x, rfl, .int n, rfl, x, n, rfl, rfl, h0, ?_⟩⟩
      refine ⟨.ref a, rfl, a, _, 0, .int x, rfl, rfl, hS, atI_nat (j := 0) rfl, .int n, rfl, x, n, rfl, rfl, ⟨h0, h1⟩, ?_⟩
      refine ⟨.ref a, rfl, a, _, 0, 0, rfl, rfl, hd, rfl, ?_⟩
      exact ⟨_, rfl, q (x % n) (x / n) z (Int.emod_nonneg _ (by omega)) (Int.emod_lt_of_pos _ h0)⟩
    · refine ⟨.ref a, rfl, a, _, 2, .int z, rfl, rfl, hS, atI_nat (j := 2) rfl, z, 1, rfl, rfl, ?_⟩
      refine ⟨.ref a, rfl, a, _, 2, 2, rfl, rfl, hd, rfl, ?_⟩
      have hd' : (upd H a (dice x y (z + 1))) a = some (dice x y (z + 1)) := upd_same
      have hS' : SqL K (upd H a (dice x y (z + 1))) a [.int x, .int y, .int (z + 1)] := SqL.of hd'
      refine ⟨.ref a, rfl, a, _, 1, .int y, rfl, rfl, hS', atI_nat (j := 1) rfl, .ref a, rfl, a, _, 2, .int (z + 1), rfl, rfl, hS', atI_nat (j := 2) rfl, _, _, rfl, rfl, .inl ⟨by decide, by decide⟩, _, _, rfl, rfl, .inl ⟨_, rfl, _, _, rfl, rfl, (by decide : (0 : Int) < 2305843009213691579), ?_⟩⟩
      have b0 := Int.emod_nonneg (y + 92821991 * (z + 1)) (show (2305843009213691579 : Int) ≠ 0 by decide)
      have b1 := Int.emod_lt_of_pos (y + 92821991 * (z + 1)) (show (0 : Int) < 2305843009213691579 by decide)
      refine ⟨_, rfl, _, rfl, _, _, rfl, rfl, .inl ⟨Int.lt_of_lt_of_le (by decide) b0, Int.lt_trans b1 (by decide)⟩, .ref a, rfl, a, _, 2, .int (z + 1), rfl, rfl, hS', atI_nat (j := 2) rfl, _, _, rfl, rfl, .inl ⟨by decide, by decide⟩, _, _, rfl, rfl, .inl ⟨_, rfl, _, _, rfl, rfl, (by decide : (0 : Int) < 2305843009213692227), _, _, rfl, rfl, .inr ⟨by decide, by decide⟩, _, rfl, _, _, rfl, rfl, ?_⟩⟩
      refine ⟨_, rfl, _, _, rfl, rfl, ⟨by decide, by decide +kernel⟩, .inl ⟨_, rfl, .int n, rfl, _, _, rfl, rfl, h0, ?_⟩⟩
      exact q _ x (z + 1) (Int.emod_nonneg _ (by omega)) (Int.emod_lt_of_pos _ h0)
def spPick (K : PySem.W.Frag) : Sp := fun vs H Q _ => ∃ (a b : Addr) (x y z : Int) (xs : List V), vs = [.ref a, .ref b] ∧ H a = some (dice x y z) ∧ H b = some (.lst xs) ∧ a ≠ b ∧ 0 < xs.length ∧ xs.length < 1000 ∧
  ∀ (i : Nat) v x' z', xs[i]? = some v → Q v (upd H a (dice x' y z'))
theorem ok_law_pick (T : Facts K mg) : FnOk P w K mg base CX0 2 T.f_law_pick T.fd_law_pick ["_law_dice_here", "_law_items"] (spPick K) := by
  have G_law_roll : FnOk P w K mg base CX0 1 T.f_law_roll T.fd_law_roll ["_law_dice_here", "_law_total"] spRoll := ok_law_roll T
  refine T.F_law_pick.ok sc_law_pick (fun vs H Q E h => ?_) (fun cdv A outer s H vs Q E hr h => ?_)
  · obtain ⟨a, b, x, y, z, xs, rfl, _⟩ := h
    rfl
  · obtain ⟨a, b, x, y, z, xs, rfl, hd, hb, hab, l0, l1, q⟩ := h
    refine ⟨_, (PSs.nox (pss_one (ps_ret (pe_ix ix_list (pv 1) (pe_call G_law_roll hr (by rfl) T.g_law_roll T.F_law_roll.kp T.b_law_roll .nil pass0 (pa_cons (pv 0) (pa_cons (pe_callB call_len_seq (by rfl) T.z_len (by decide +kernel) (pa_cons (pv 1) pa_nil)) pa_nil))) (fun _ _ => rfl))))), ?_⟩
    refine ⟨.ref b, rfl, .ref a, rfl, .ref b, rfl, b, xs, rfl, .inl (SqL.of hb), ?_⟩
    refine ⟨a, x, y, z, _, rfl, hd, (by omega : (0 : Int) < (xs.length : Int)), Nat.lt_trans (PySem.Flt.log2_lt_of (k := 10) (by decide) (by show xs.length < 2 ^ 10; omega)) (by decide), fun r x' z' h1 h2 => ?_⟩
    obtain ⟨j, rfl⟩ := Int.eq_ofNat_of_zero_le h1
    have hj : j < xs.length := by omega
    exact ⟨b, xs, j, xs[j], rfl, rfl, SqL.of (by rw [upd_ne (Ne.symm hab)]; exact hb), atI_nat (List.getElem?_eq_getElem hj), q j _ x' z' (List.getElem?_eq_getElem hj)⟩
def spRoll2 : Sp := fun vs H Q _ => ∃ (a : Addr) (n : Int), vs = [.ref a, .int n] ∧ Dc H a ∧ 0 < n ∧ n.natAbs.log2 < 9000 ∧ ∀ (r : Nat) H', (r : Int) < n → Sx a H H' → Dc H' a → Q (.int r) H'
theorem roll2 : ∀ vs H Q E, spRoll2 vs H Q E → spRoll vs H Q E := fun vs H Q E h => by
  obtain ⟨a, n, rfl, ⟨x, y, z, e⟩, h0, h1, q⟩ := h
  refine ⟨a, x, y, z, n, rfl, e, h0, h1, fun r x' z' r0 r1 => ?_⟩
  obtain ⟨j, rfl⟩ := Int.eq_ofNat_of_zero_le r0
  exact q j _ r1 Sx.upd ⟨x', y, z', upd_same⟩
def spPick2 : Sp := fun vs H Q _ => ∃ (a b : Addr) (xs : List V), vs = [.ref a, .ref b] ∧ Dc H a ∧ H b = some (.lst xs) ∧ b ≠ a ∧ 0 < xs.length ∧ xs.length < 1000 ∧ ∀ v H', v ∈ xs → Sx a H H' → Dc H' a → Q v H'
theorem pick2 {K : PySem.W.Frag} : ∀ vs H Q E, spPick2 vs H Q E → spPick K vs H Q E := fun vs H Q E h => by
  obtain ⟨a, b, xs, rfl, ⟨x, y, z, e⟩, hb, ne, l0, l1, q⟩ := h
  exact ⟨a, b, x, y, z, xs, rfl, e, hb, Ne.symm ne, l0, l1, fun i v x' z' hv => q v _ (List.mem_of_getElem? hv) Sx.upd ⟨x', y, z', upd_same⟩⟩
def spNear : Sp := fun vs H Q _ => ∃ (a : Addr) (m : Int), vs = [.ref a, .int m] ∧ Dc H a ∧ 0 ≤ m ∧ m ≤ 10 ^ 15 ∧ ∀ r H', -m ≤ r → r ≤ m → Sx a H H' → Dc H' a → Q (.int r) H'
theorem ok_law_near (T : Facts K mg) : FnOk P w K mg base CX0 2 T.f_law_near T.fd_law_near ["_law_dice_here", "_law_most"] spNear := by
  have G_law_roll : FnOk P w K mg base CX0 1 T.f_law_roll T.fd_law_roll ["_law_dice_here", "_law_total"] spRoll2 := (ok_law_roll T).imp roll2
  refine T.F_law_near.ok sc_law_near (fun vs H Q E h => ?_) (fun cdv A outer s H vs Q E hr h => ?_)
  · obtain ⟨a, m, rfl, _⟩ := h
    rfl
  · obtain ⟨a, m, rfl, hd, h0, h1, q⟩ := h
    refine ⟨_, (PSs.nox (pss_one (ps_ret (pe_op op_sub (pe_call G_law_roll hr (by rfl) T.g_law_roll T.F_law_roll.kp T.b_law_roll .nil pass0 (pa_cons (pv 0) (pa_cons (pe_op op_add (pe_op op_mul pe_int (pv 1)) pe_int) pa_nil))) (pv 1))))), ?_⟩
    have e15 : (10 : Int) ^ 15 = 1000000000000000 := by decide
    rw [e15] at h1
    refine ⟨_, rfl, _, rfl, _, _, rfl, rfl, .inl ⟨by decide, by decide⟩, _, _, rfl, rfl, a, _, rfl, hd, (by show 0 < 2 * m + 1; omega), ?_, fun r H' hr s d => ⟨_, rfl, _, _, rfl, rfl, ?_⟩⟩
    · refine Nat.lt_trans (PySem.Flt.log2_lt_of (k := 60) (by decide) ?_) (by decide)
      show (2 * m + 1).natAbs < 2 ^ 60
      omega
    · have hr' : (r : Int) < 2 * m + 1 := hr
      exact q _ H' (by omega) (by omega) s d
/-! ### the law's own gcd -/
def spLGcd : Sp := fun vs H Q _ => ∃ t b : Int, vs = [.int t, .int b] ∧ Q (.int ((Nat.gcd t.natAbs b.natAbs : Nat) : Int)) H
def yOf : L2.St → Nat
  | [_, some (.int y)] => y.toNat
  | _ => 0
theorem abs_nat (i : Int) : (if i < 0 then -i else i) = (i.natAbs : Int) := by split <;> omega
theorem ok_law_gcd (T : Facts K mg) : FnOk P w K mg base CX0 1 T.f_law_gcd T.fd_law_gcd ["_law_one", "_law_other"] spLGcd := by
  refine T.F_law_gcd.ok sc_law_gcd (fun vs H Q E h => ?_) (fun cdv A outer s H vs Q E hr h => ?_)
  · obtain ⟨t, b, rfl, _⟩ := h
    rfl
  · obtain ⟨t, b, rfl, q⟩ := h
    refine ⟨_, (PSs.nox (pss_cons (ps_par (i := 0) (j := 1) (by rfl) sc_law_gcd.nd rfl rfl (by decide) rfl rfl (pa_cons (pe_callB call_abs (by rfl) T.z_abs (by decide +kernel) (pa_cons (pv 0) pa_nil)) (pa_cons (pe_callB call_abs (by rfl) T.z_abs (by decide +kernel) (pa_cons (pv 1) pa_nil)) pa_nil)) (by rfl))
    (pss_cons (ps_while PassesOwn.never (pt_cmpR op_gt (pv 1) pe_int (nomark _))
      (pss_one (ps_par (i := 0) (j := 1) (by rfl) sc_law_gcd.nd rfl rfl (by decide) rfl rfl (pa_cons (pv 1) (pa_cons (pe_op op_mod (pe_callTy call_int1 (by rfl) T.z_int (by decide +kernel) (pa_cons (pv 0) pa_nil)) (pv 1)) pa_nil)) (by rfl))))
    (pss_one (ps_ret (pv 0)))))), ?_⟩
    refine ⟨_, rfl, t, rfl, _, rfl, b, rfl, _, _, rfl, ?_⟩
    rw [abs_nat, abs_nat]
    refine while_by (fun σ H' => ∃ x y : Nat, σ = [some (.int x), some (.int y)] ∧ Nat.gcd x y = Nat.gcd t.natAbs b.natAbs ∧ H' = H) (fun σ _ => yOf σ) ⟨_, _, rfl, rfl, rfl⟩ (fun σ H' hP => ?_) (fun σ H' Q1 Q2 hQ h => ?_)
    · obtain ⟨x, y, rfl, hg, rfl⟩ := hP
      refine ⟨_, rfl, _, _, rfl, rfl, _, rfl, ?_⟩
      by_cases c : 0 < (y : Int)
      · rw [decide_eq_true c]
        refine iteT ⟨_, rfl, _, rfl, .inl ⟨_, rfl, _, rfl, _, _, rfl, rfl, c, _, _, rfl, ?_⟩⟩
        have e : (x : Int) % (y : Int) = ((x % y : Nat) : Int) := (Int.natCast_emod x y).symm
        refine ⟨⟨y, x % y, ?_, ?_, rfl⟩, ?_⟩
        · show [some (V.int y), some (V.int ((x : Int) % (y : Int)))] = _
          rw [e]
        · rw [← hg, Nat.gcd_comm x y, Nat.gcd_rec y x, Nat.gcd_comm]
        · show ((x : Int) % (y : Int)).toNat < (y : Int).toNat
          rw [e]
          have := Nat.mod_lt x (show y > 0 by omega)
          omega
      · rw [decide_eq_false c]
        have ey : y = 0 := by omega
        subst ey
        refine iteF ⟨_, rfl, ?_⟩
        rw [← hg, Nat.gcd_zero_right] at q
        exact q
    · obtain ⟨v, e, x1, x2, e1, e2, k, e3, h⟩ := h
      exact ⟨v, e, x1, x2, e1, e2, k, e3, hQ _ _ h⟩
def spRight : Sp := fun vs H Q _ => ∃ a : Addr, vs = [.ref a] ∧ Dc H a ∧ ∀ H', Sx a H H' → Dc H' a → Q (.bl true) H'
end
end K49

set_option Elab.async false
set_option linter.all false
set_option maxRecDepth 100000
set_option maxHeartbeats 4000000
namespace K49
open PySem PySem.Spec PyProof.Rows L2 StX RZ MyR SlX OwnR OwnF
theorem cont_snoc (x : Int) : ∀ l : List Int, cont (l ++ [x]) = Nat.gcd (cont l) x.natAbs
  | [] => by
    show Nat.gcd x.natAbs 0 = Nat.gcd 0 x.natAbs
    rw [Nat.gcd_zero_right, Nat.gcd_zero_left]
  | y :: ys => by
    show Nat.gcd y.natAbs (cont (ys ++ [x])) = Nat.gcd (Nat.gcd y.natAbs (cont ys)) x.natAbs
    rw [cont_snoc x ys, Nat.gcd_assoc]
theorem take_snoc {xs : List Int} {i : Nat} (h : i < xs.length) : xs.take (i + 1) = xs.take i ++ [co xs i] := by
  rw [List.take_add_one, List.getElem?_eq_getElem h, co_get h]
  rfl
theorem int_get {xs : List Int} {i : Nat} {x : V} (h : (xs.map V.int)[i]? = some x) : i < xs.length ∧ x = .int (co xs i) := by
  have hi : i < xs.length := by
    have := (List.getElem?_eq_some_iff.mp h).1
    rw [List.length_map] at this
    exact this
  rw [get_int hi] at h
  cases h
  exact ⟨hi, rfl⟩
theorem tab_snoc (n : Nat) (f : Nat → Int) : tab n f ++ [V.int (f n)] = tab (n + 1) f := by
  unfold tab
  rw [List.range_succ, List.map_append]
  rfl
theorem zs_tb {c : Int} {xs ys : List Int} (hl : xs.length = ys.length) : (tb xs.length fun k => co xs k + c * co ys k) = zs c xs ys := by
  refine co_inj (by rw [tb_len]; unfold zs; rw [List.length_zipWith, hl, Nat.min_self]) fun k => ?_
  rw [co_tb]
  unfold zs
  by_cases hk : k < xs.length
  · rw [if_pos hk, co_get (l := List.zipWith _ _ _) (by rw [List.length_zipWith]; omega), List.getElem_zipWith, co_get hk, co_get (by omega)]
  · rw [if_neg hk, co_far (by rw [List.length_zipWith]; omega)]
section
variable {P : Program} {w : World} {K : PySem.W.Frag} {mg : Str → Option Value} {base : Heap}
def spShared : Sp := fun vs H Q _ => ∃ (t : Addr) (ns : List Int), vs = [.ref t] ∧ H t = some (tp ns) ∧ Q (.int (cont ns : Nat)) H
theorem ok_law_shared (T : Facts K mg) : FnOk P w K mg base CX0 2 T.f_law_shared T.fd_law_shared ["_law_numbers"] spShared := by
  have G_law_gcd : FnOk P w K mg base CX0 1 T.f_law_gcd T.fd_law_gcd ["_law_one", "_law_other"] spLGcd := ok_law_gcd T
  refine T.F_law_shared.ok sc_law_shared (fun vs H Q E h => ?_) (fun cdv A outer s H vs Q E hr h => ?_)
  · obtain ⟨t, ns, rfl, _⟩ := h
    rfl
  · obtain ⟨t, ns, rfl, ht, q⟩ := h
    refine ⟨_, (PSs.nox (pss_cons (ps_set (i := 1) sc_law_shared.nd rfl (.inl rfl) pe_int)
    (pss_cons (ps_for PassesOwn.never (by rfl) (pi_tup (pv 0)) (pg_name (i := 2) sc_law_shared.nd rfl (.inl rfl))
      (pss_one (ps_set (i := 1) sc_law_shared.nd rfl (.inl rfl) (pe_call G_law_gcd hr (by rfl) T.g_law_gcd T.F_law_gcd.kp T.b_law_gcd .nil pass0 (pa_cons (pv 1) (pa_cons (pv 2) pa_nil))))))
    (pss_one (ps_ret (pv 1)))))), ?_⟩
    refine ⟨_, rfl, t, rfl, ⟨_, SqT.of ht⟩, for_tup (xs := ns.map V.int) (fun i σ H' => ∃ y, σ = [some (.ref t), some (.int ((cont (ns.take i) : Nat) : Int)), y] ∧ H' = H) ⟨none, rfl, rfl⟩ (fun i σ H' _ hP => by rw [hP.choose_spec.2]; exact SqT.of ht) (fun i x σ H' hx hP => ?_) (fun σ H' hP => ?_)⟩
    · obtain ⟨y, rfl, rfl⟩ := hP
      obtain ⟨hi, rfl⟩ := int_get hx
      refine ⟨_, rfl, _, rfl, _, _, rfl, some (.int (co ns i)), ?_, rfl⟩
      rw [take_snoc hi, cont_snoc]
      rfl
    · obtain ⟨y, rfl, rfl⟩ := hP
      rw [List.length_map, List.take_length]
      exact ⟨_, rfl, q⟩
def spPlus : Sp := fun vs H Q _ => ∃ (t u : Addr) (xs ys : List Int), vs = [.ref t, .ref u] ∧ H t = some (tp xs) ∧ H u = some (tp ys) ∧ xs.length = ys.length ∧ xs.length ≤ 100 ∧ ∀ p H', Same H H' → H p = none → H' p = some (tp (zs 1 xs ys)) → Q (.ref p) H'
theorem ok_law_plus (T : Facts K mg) : FnOk P w K mg base CX0 1 T.f_law_plus T.fd_law_plus ["_law_one", "_law_other"] spPlus := by
  refine T.F_law_plus.ok sc_law_plus (fun vs H Q E h => ?_) (fun cdv A outer s H vs Q E hr h => ?_)
  · obtain ⟨t, u, xs, ys, rfl, _⟩ := h
    rfl
  · obtain ⟨t, u, xs, ys, rfl, ht, hu, hl, hlt, q⟩ := h
    refine ⟨_, (PSs.nox (pss_one (ps_ret (pe_tupleOf (by rfl) T.z_tuple (pe_lc (own := [("_law_first", 2), ("_law_second", 3)]) (g := (gTup K 2 (gCons (gName 2) (gCons (gName 3) gNil)))) (tt := tYes) (by rfl) sc_law_plus.nd (pi_zipA (by rfl) T.z_zip (pa_cons (pv 0) (pa_cons (pv 1) pa_nil))) (blkOk_by (N := N_law_plus) (sc := defScope s_law_plus) (by decide +kernel)) (fun _ _ _ _ _ => (pg_tup (by rfl) (pgs_cons (pg_name (i := 2) sc_law_plus.nd rfl (.inl rfl)) (pgs_cons (pg_name (i := 3) sc_law_plus.nd rfl (.inl rfl)) pgs_nil)))) (fun _ _ _ _ _ => pts_nil) (fun _ _ _ _ _ => (pe_op op_add (pv 2) (pv 3)))))))), ?_⟩
    refine ⟨_, rfl, _, rfl, t, u, _, _, rfl, .inr ⟨SqT.of ht, SqT.of hu, fun D hD => ?_⟩⟩
    refine lc_zipT (xs := xs.map V.int) (ys := ys.map V.int) (by rw [List.length_map, List.length_map, hl]) (fun j H' => Same H H' ∧ H' D = some (.lst (tab j fun k => co xs k + 1 * co ys k))) ⟨same_upd0 hD, upd_same⟩ (fun j H' _ hP => ⟨SqT.of (hP.1 _ _ ht), SqT.of (hP.1 _ _ hu)⟩) (fun j x y A H' hx hy hP hA => ?_) (fun H' hP => ?_)
    · obtain ⟨sH, hD'⟩ := hP
      obtain ⟨hj, rfl⟩ := int_get hx
      obtain ⟨_, rfl⟩ := int_get hy
      have sA := same_upd0 (o := .tup [.int (co xs j), .int (co ys j)]) hA
      refine ⟨A, _, rfl, SqT.of upd_same, rfl, _, _, rfl, _, _, rfl, rfl, rfl, _, rfl, _, rfl, _, _, rfl, rfl, _, sA _ _ hD', ?_, fun b o e => ?_, ?_⟩
      · rw [tab_len]
        exact small1000 (by omega)
      · rw [upd_ne (ne_of_none e hD)]
        exact sA _ _ (sH _ _ e)
      · rw [upd_same, ← tab_snoc]
        show some (HO.lst (tab j _ ++ [V.int (co xs j + co ys j)])) = some (HO.lst (tab j _ ++ [V.int (co xs j + 1 * co ys j)]))
        rw [Int.one_mul]
    · obtain ⟨sH, hD'⟩ := hP
      rw [List.length_map] at hD'
      refine .inl ⟨D, _, rfl, SqL.of hD', fun p hp2 => ?_⟩
      refine q p _ (sH.trans (same_upd0 hp2)) (Same.free sH hp2) ?_
      rw [upd_same, tab_tb, zs_tb hl]
def spScaled : Sp := fun vs H Q _ => ∃ (t : Addr) (xs : List Int) (c : Int), vs = [.ref t, .int c] ∧ H t = some (tp xs) ∧ xs.length ≤ 100 ∧ (∀ x ∈ xs, sm x) ∧ sm c ∧ ∀ p H', Same H H' → H p = none → H' p = some (tp (xs.map fun x => c * x)) → Q (.ref p) H'
theorem ok_law_scaled (T : Facts K mg) : FnOk P w K mg base CX0 1 T.f_law_scaled T.fd_law_scaled ["_law_form_here", "_law_factor"] spScaled := by
  refine T.F_law_scaled.ok sc_law_scaled (fun vs H Q E h => ?_) (fun cdv A outer s H vs Q E hr h => ?_)
  · obtain ⟨t, xs, c, rfl, _⟩ := h
    rfl
  · obtain ⟨t, xs, c, rfl, ht, hl, hs, hc, q⟩ := h
    refine ⟨_, (PSs.nox (pss_one (ps_ret (pe_tupleOf (by rfl) T.z_tuple (pe_lc (own := [("_law_entry", 2)]) (g := (gName 2)) (tt := tYes) (by rfl) sc_law_scaled.nd (pi_tup (pv 0)) (blkOk_by (N := N_law_scaled) (sc := defScope s_law_scaled) (by decide +kernel)) (fun _ _ _ _ _ => (pg_name (i := 2) sc_law_scaled.nd rfl (.inl rfl))) (fun _ _ _ _ _ => pts_nil) (fun _ _ _ _ _ => (pe_op op_mulW (pv 1) (pv 2)))))))), ?_⟩
    refine ⟨_, rfl, t, rfl, ⟨_, SqT.of ht⟩, fun D hD => lc_tup (xs := xs.map V.int) (fun j H' => H' = upd H D (.lst (tab j fun k => c * co xs k))) rfl (fun j H' _ hP => ?_) (fun j x H' hx hP => ?_) (fun H' hP => ?_)⟩
    · rw [hP]
      exact SqT.of (same_upd0 hD _ _ ht)
    · subst hP
      obtain ⟨hj, rfl⟩ := int_get hx
      refine ⟨rfl, ⟨_, rfl, _, rfl, _, _, rfl, rfl, sm_mul hc (sm_co hs hj), _, upd_same, ?_, ?_⟩⟩
      · rw [tab_len]
        exact small1000 (by omega)
      · rw [upd_upd, ← tab_snoc]
    · subst hP
      rw [List.length_map, tab_tb, tb_map (fun x => c * x) xs]
      refine .inl ⟨D, _, rfl, SqL.of upd_same, fun p hp2 => ?_⟩
      exact q p _ ((same_upd0 hD).trans (same_upd0 hp2)) (Same.free (same_upd0 hD) hp2) upd_same
end
end K49

set_option Elab.async false
set_option linter.all false
set_option maxRecDepth 100000
set_option maxHeartbeats 4000000
namespace K49
open PySem PySem.Spec PyProof.Rows L2 StX RZ MyR SlX OwnR OwnF EnumT
section
variable {P : Program} {w : World} {K : PySem.W.Frag} {mg : Str → Option Value} {base : Heap}
def spProd : Sp := fun vs H Q _ => ∃ (a b : Addr) (xs ys : List Int), vs = [.ref a, .ref b] ∧ H a = some (tp xs) ∧ H b = some (tp ys) ∧ xs ≠ [] ∧ ys ≠ [] ∧ xs.length ≤ 100 ∧ ys.length ≤ 100 ∧ (∀ x ∈ xs, sm x) ∧ (∀ x ∈ ys, sm x) ∧ ∀ p H', Same H H' → H p = none → H' p = some (tp (ml xs ys)) → Q (.ref p) H'
theorem ok_law_product (T : Facts K mg) : FnOk P w K mg base CX0 1 T.f_law_product T.fd_law_product ["_law_one", "_law_other"] spProd := by
  refine T.F_law_product.ok sc_law_product (fun vs H Q E h => ?_) (fun cdv A outer s H vs Q E hr h => ?_)
  · obtain ⟨a, b, xs, ys, rfl, _⟩ := h
    rfl
  · obtain ⟨a, b, xs, ys, rfl, ha, hb, nx, ny, lx, ly, hx, hy, q⟩ := h
    have px : 0 < xs.length := List.length_pos_iff.mpr nx
    have py : 0 < ys.length := List.length_pos_iff.mpr ny
    refine ⟨_, (PSs.nox (pss_cons (ps_setLc (i := 2) (own := [("_law_place", 3)]) (g := (gName 3)) (tt := tYes) rfl sc_law_product.nd rfl rfl (sw_true rfl rfl rfl (by decide +kernel)) (pi_range1 (by rfl) T.z_range (pa_cons (pe_op op_sub (pe_op op_add (pe_callB call_len_seq (by rfl) T.z_len (by decide +kernel) (pa_cons (pv 0) pa_nil)) (pe_callB call_len_seq (by rfl) T.z_len (by decide +kernel) (pa_cons (pv 1) pa_nil))) pe_int) pa_nil)) (blkOk_by (N := N_law_product) (sc := defScope s_law_product) (by decide +kernel)) (fun _ _ _ _ _ => (pg_name (i := 3) sc_law_product.nd rfl (.inl rfl))) (fun _ _ _ _ _ => pts_nil) (fun _ _ _ _ _ => pe_int))
    (pss_cons (ps_for PassesOwn.never (by rfl) (pi_enumT (by rfl) T.z_enumerate (pa_cons (pv 0) pa_nil)) (pg_tup (by rfl) (pgs_cons (pg_name (i := 4) sc_law_product.nd rfl (.inl rfl)) (pgs_cons (pg_name (i := 5) sc_law_product.nd rfl (.inl rfl)) pgs_nil)))
      (pss_one (ps_for PassesOwn.never (by rfl) (pi_enumT (by rfl) T.z_enumerate (pa_cons (pv 1) pa_nil)) (pg_tup (by rfl) (pgs_cons (pg_name (i := 3) sc_law_product.nd rfl (.inl rfl)) (pgs_cons (pg_name (i := 6) sc_law_product.nd rfl (.inl rfl)) pgs_nil)))
        (pss_one (ps_asg (pe_op op_add (pe_ix ix_list (pv 2) (pe_op op_add (pv 4) (pv 3)) (fun _ _ => rfl)) (pe_op op_mulW (pv 5) (pv 6))) (pg_sub (pv 2) (pe_op op_add (pv 4) (pv 3)) set_list))))))
    (pss_one (ps_ret (pe_tupleOf (by rfl) T.z_tuple (pv 2))))))), ?_⟩
    refine ⟨_, rfl, a, _, rfl, .inr (SqT.of ha), _, rfl, b, _, rfl, .inr (SqT.of hb), ?_⟩
    rw [List.length_map, List.length_map]
    obtain ⟨N, hN⟩ : ∃ N, N = xs.length + ys.length - 1 := ⟨_, rfl⟩
    have eN : (((xs.length : Int) + (ys.length : Int) - 1)).toNat = N := by omega
    refine ⟨_, _, rfl, rfl, _, _, rfl, rfl, _, rfl, (by show -(2 ^ 62) ≤ (xs.length : Int) + (ys.length : Int) - 1; omega), (by show (xs.length : Int) + (ys.length : Int) - 1 < 2 ^ 62; omega), fun D hD => lc_range (n := _) (fun j H' => H' = upd H D (.lst (List.replicate j (V.int 0)))) rfl (fun j H' hj hP => ?_) (fun H' hP => ?_)⟩
    · subst hP
      have hj2 : j < N := by rw [← eN]; exact hj
      refine ⟨rfl, ⟨_, upd_same, ?_, ?_⟩⟩
      · rw [List.length_replicate]
        exact small1000 (by omega)
      · rw [upd_upd, List.replicate_succ']
    · subst hP
      show _
      rw [show List.replicate (((xs.length : Int) + (ys.length : Int) - 1)).toNat (V.int 0) = tab N (fun k => cv (xs.take 0) (co ys) k) by rw [eN, tab_rep]; rfl]
      have sD : ∀ o, Same H (upd H D o) := fun o => same_upd0 hD
      -- what stands in each turn: the list at D, and what stood before
      refine ⟨_, rfl, a, _, rfl, SqT.of (sD _ _ _ ha), for_enumT (xs := xs.map V.int) (fun i σ H' => ∃ y3 y4 y5 y6, σ = [some (.ref a), some (.ref b), some (.ref D), y3, y4, y5, y6] ∧ Same H H' ∧ H' D = some (.lst (tab N fun k => cv (xs.take i) (co ys) k))) ⟨none, none, none, none, rfl, sD _, upd_same⟩ (fun i σ H' hP => ?_) (fun i x B σ H' hxi hP hB => ?_) (fun σ H' hP => ?_)⟩
      · obtain ⟨y3, y4, y5, y6, _, sH, _⟩ := hP
        exact SqT.of (sH _ _ ha)
      · obtain ⟨y3, y4, y5, y6, rfl, sH, hL⟩ := hP
        obtain ⟨hi2, rfl⟩ := int_get hxi
        refine ⟨B, _, rfl, SqT.of upd_same, rfl, _, _, rfl, _, _, rfl, rfl, ?_⟩
        refine gen_upd H' B _ hB (fun H2 s2 _ => ?_)
        have sH2 := sH.trans s2
        have hL2 := s2 _ _ hL
        rw [tab_ext (g := J xs (co ys) i 0) fun k hk => J_0.symm] at hL2
        refine ⟨_, rfl, b, _, rfl, SqT.of (sH2 _ _ hb), for_enumT (xs := ys.map V.int) (fun j σ H3 => ∃ y3 y6, σ = [some (.ref a), some (.ref b), some (.ref D), y3, some (.int ((i : Nat) : Int)), some (.int (co xs i)), y6] ∧ Same H H3 ∧ H3 D = some (.lst (tab N (J xs (co ys) i j)))) ⟨y3, y6, rfl, sH2, hL2⟩ (fun j σ H3 hP => ?_) (fun j y B2 σ H3 hyj hP hB2 => ?_) (fun σ H3 hP => ?_)⟩
        · obtain ⟨y3, y6, _, sH3, _⟩ := hP
          exact SqT.of (sH3 _ _ hb)
        · obtain ⟨y3, y6, rfl, sH3, hL3⟩ := hP
          obtain ⟨hj2, rfl⟩ := int_get hyj
          refine ⟨B2, _, rfl, SqT.of upd_same, rfl, _, _, rfl, _, _, rfl, rfl, ?_⟩
          refine gen_upd H3 B2 _ hB2 (fun H4 s4 _ => ?_)
          have sH4 := sH3.trans s4
          have hL4 := s4 _ _ hL3
          have e1 : ((i : Nat) : Int) + ((j : Nat) : Int) = ((i + j : Nat) : Int) := by omega
          refine ⟨_, rfl, _, rfl, _, rfl, _, _, rfl, rfl, D, _, _, _, rfl, rfl, SqL.of hL4, at_of e1 (tab_get (by omega)), _, rfl, _, rfl, _, _, rfl, rfl, sm_mul (sm_co hx hi2) (sm_co hy hj2), _, _, rfl, rfl, ?_⟩
          refine ⟨_, rfl, _, rfl, _, rfl, _, _, rfl, rfl, D, _, _, (i + j), rfl, rfl, hL4, ?_, ?_⟩
          · rw [tab_len]
            exact ix_at e1 (by omega)
          · refine ⟨_, _, rfl, fun c o e => ?_, ?_⟩
            · rw [upd_ne (ne_of_none e hD)]
              exact sH4 _ _ e
            · rw [upd_same]
              show some (HO.lst ((tab N (J xs (co ys) i j)).set (i + j) (.int (J xs (co ys) i j (i + j) + co xs i * co ys j)))) = _
              rw [tab_set, tab_ext fun k hk => J_step]
        · obtain ⟨y3, y6, rfl, sH3, hL3⟩ := hP
          rw [List.length_map, tab_ext fun k hk => J_end hi2] at hL3
          exact ⟨_, _, _, _, rfl, sH3, hL3⟩
      · obtain ⟨y3, y4, y5, y6, rfl, sH, hL⟩ := hP
        rw [List.length_map, List.take_length, tab_tb] at hL
        refine ⟨_, rfl, .inl ⟨D, _, rfl, SqL.of hL, fun p hp => ?_⟩⟩
        refine q p _ (sH.trans (same_upd0 hp)) (Same.free sH hp) ?_
        rw [upd_same, hN]
        rfl
/-- the product of the first n -/
def pow (l : List Int) : Nat → List Int
  | 0 => [1]
  | n + 1 => ml (pow l n) l
def spPow : Sp := fun vs H Q _ => ∃ (a : Addr) (xs : List Int) (n : Nat), vs = [.ref a, .int n] ∧ H a = some (tp xs) ∧ xs ≠ [] ∧ xs.length ≤ 100 ∧ (∀ x ∈ xs, sm x) ∧ (∀ i, i < n → pow xs i ≠ [] ∧ (pow xs i).length ≤ 100 ∧ ∀ x ∈ pow xs i, sm x) ∧ n ≤ 100 ∧ ∀ p H', Same H H' → H' p = some (tp (pow xs n)) → Q (.ref p) H'
theorem ok_law_power (T : Facts K mg) : FnOk P w K mg base CX0 2 T.f_law_power T.fd_law_power ["_law_pair", "_law_times"] spPow := by
  have G_law_product : FnOk P w K mg base CX0 1 T.f_law_product T.fd_law_product ["_law_one", "_law_other"] spProd := ok_law_product T
  refine T.F_law_power.ok sc_law_power (fun vs H Q E h => ?_) (fun cdv A outer s H vs Q E hr h => ?_)
  · obtain ⟨a, xs, n, rfl, _⟩ := h
    rfl
  · obtain ⟨a, xs, n, rfl, ha, nx, lx, hx, hp, hn, q⟩ := h
    refine ⟨_, (PSs.nox (pss_cons (ps_set (i := 2) sc_law_power.nd rfl (.inl rfl) (pe_tup (pa_cons pe_int pa_nil)))
    (pss_cons (ps_for PassesOwn.never (by rfl) (pi_range1 (by rfl) T.z_range (pa_cons (pv 1) pa_nil)) (pg_name (i := 3) sc_law_power.nd rfl (.inl rfl))
      (pss_one (ps_set (i := 2) sc_law_power.nd rfl (.inl rfl) (pe_call G_law_product hr (by rfl) T.g_law_product T.F_law_product.kp T.b_law_product .nil pass0 (pa_cons (pv 2) (pa_cons (pv 0) pa_nil))))))
    (pss_one (ps_ret (pv 2)))))), ?_⟩
    refine ⟨(by show 1 ≤ sizeLine; decide), fun p0 n0 => ⟨_, rfl, n, rfl, by omega, by omega, for_range (n := (n : Int).toNat) (fun i σ H' => ∃ r y3, σ = [some (.ref a), some (.int n), some (.ref r), y3] ∧ Same H H' ∧ H' r = some (tp (pow xs i))) ⟨p0, none, rfl, same_upd0 n0, upd_same⟩ (fun i σ H' hi hP => ?_) (fun σ H' hP => ?_)⟩⟩
    · obtain ⟨r, y3, rfl, sH, hr2⟩ := hP
      obtain ⟨h1, h2, h3⟩ := hp i (by omega)
      exact ⟨_, rfl, _, rfl, r, a, _, xs, rfl, hr2, sH _ _ ha, h1, nx, h2, lx, h3, hx, fun p H2 s2 _ hp2 => ⟨p, _, rfl, sH.trans s2, hp2⟩⟩
    · obtain ⟨r, y3, rfl, sH, hr2⟩ := hP
      rw [Int.toNat_natCast] at hr2
      exact ⟨_, rfl, q r H' sH hr2⟩
end
end K49

set_option Elab.async false
set_option linter.all false
set_option maxRecDepth 100000
set_option maxHeartbeats 4000000
namespace K49
open PySem PySem.Spec PyProof.Rows L2 StX RZ MyR SlX OwnR OwnF EnumT
theorem first_of : ∀ ns : List Int, cont ns ≠ 0 → ∃ x r, ns.filter (fun x => x != 0) = x :: r ∧ sg ns = (if 0 < x then 1 else -1)
  | [], h => absurd rfl h
  | y :: ys, h => by
    by_cases c : y = 0
    · have hc : cont ys ≠ 0 := fun e => h (by
        show Nat.gcd y.natAbs (cont ys) = 0
        rw [c, e]
        rfl)
      obtain ⟨x, r, e1, e2⟩ := first_of ys hc
      refine ⟨x, r, ?_, ?_⟩
      · rw [List.filter_cons_of_neg (by rw [c]; decide)]
        exact e1
      · show (if y = 0 then sg ys else _) = _
        rw [if_pos c]
        exact e2
    · refine ⟨y, ys.filter (fun x => x != 0), ?_, ?_⟩
      · rw [List.filter_cons_of_pos (by simpa using c)]
      · show (if y = 0 then sg ys else if 0 < y then 1 else -1) = _
        rw [if_neg c]
section
variable {P : Program} {w : World} {K : PySem.W.Frag} {mg : Str → Option Value} {base : Heap}
theorem ok_law_plain (T : Facts K mg) : FnOk P w K mg base CX0 3 T.f_law_plain T.fd_law_plain ["_law_form_here"] spPrim := by
  have G_law_shared : FnOk P w K mg base CX0 2 T.f_law_shared T.fd_law_shared ["_law_numbers"] spShared := ok_law_shared T
  refine T.F_law_plain.ok sc_law_plain (fun vs H Q E h => ?_) (fun cdv A outer s H vs Q E hr h => ?_)
  · obtain ⟨t, ns, rfl, _⟩ := h
    rfl
  · obtain ⟨t, ns, rfl, ht, hl, hs, q⟩ := h
    refine ⟨_, (PSs.nox (pss_cons (ps_set (i := 1) sc_law_plain.nd rfl (.inr rfl) (pe_call G_law_shared hr (by rfl) T.g_law_shared T.F_law_shared.kp T.b_law_shared .nil pass0 (pa_cons (pv 0) pa_nil)))
    (pss_cons (ps_if (pt_cmpR op_eq (pv 1) pe_int (nomark _))
      (pss_one (ps_ret (pv 0)))
      pss_nil)
    (pss_cons (ps_set (i := 2) sc_law_plain.nd rfl (.inr rfl) (pe_ix ix_list (pe_lc (own := [("_law_entry", 3)]) (g := (gName 3)) (by rfl) sc_law_plain.nd (pi_tup (pv 0)) (blkOk_by (N := N_law_plain) (sc := defScope s_law_plain) (by decide +kernel)) (fun _ _ _ _ _ => (pg_name (i := 3) sc_law_plain.nd rfl (.inl rfl))) (fun _ _ _ _ _ => (pts_one (pt_cmpR op_ne (pv 3) pe_int (nomark _)))) (fun _ _ _ _ _ => (pv 3))) pe_int (fun _ _ => rfl)))
    (pss_one (ps_ret (pe_tupleOf (by rfl) T.z_tuple (pe_lc (own := [("_law_entry", 3)]) (g := (gName 3)) (tt := tYes) (by rfl) sc_law_plain.nd (pi_tup (pv 0)) (blkOk_by (N := N_law_plain) (sc := defScope s_law_plain) (by decide +kernel)) (fun _ _ _ _ _ => (pg_name (i := 3) sc_law_plain.nd rfl (.inl rfl))) (fun _ _ _ _ _ => pts_nil) (fun _ _ _ _ _ => (pe_op op_fdivZ (pv 3) (pe_ifExp (pt_cmpR op_gt (pv 2) pe_int (nomark _)) (pv 1) (pe_op op_sub pe_int (pv 1))))))))))))), ?_⟩
    refine ⟨_, rfl, t, ns, rfl, ht, _, rfl, rfl, _, rfl, ?_⟩
    by_cases c : cont ns = 0
    · rw [decide_eq_true (show V.int ((cont ns : Nat) : Int) = V.int 0 by rw [c]; rfl)]
      refine iteT ⟨_, rfl, q t H (Same.rf H) ?_⟩
      unfold prim
      rw [if_pos (by unfold part; rw [c]; exact Int.zero_mul _)]
      exact ht
    · rw [decide_eq_false fun z => c (Int.natCast_eq_zero.mp (V.int.inj z))]
      obtain ⟨x0, r0, e1, e2⟩ := first_of ns c
      have hpart : part ns = if 0 < x0 then ((cont ns : Nat) : Int) else 0 - ((cont ns : Nat) : Int) := by
        unfold part
        rw [e2]
        split
        · exact Int.mul_one _
        · rw [Int.mul_neg, Int.mul_one, Int.zero_sub]
      have hp0 : part ns ≠ 0 := fun e => c (by rw [← part_abs, e]; rfl)
      have hcd : CDivZ 0 (part ns) := ⟨hp0, Nat.lt_trans (PySem.Flt.log2_lt_of (k := 4000) (by decide) (sm_part hs)) (by decide)⟩
      refine iteF ⟨_, rfl, t, rfl, ⟨_, SqT.of ht⟩, fun D hD => lc_tup (xs := ns.map V.int) (fun j H' => Same H H' ∧ H' D = some (.lst (((ns.take j).filter (fun x => x != 0)).map V.int))) ⟨same_upd0 hD, upd_same⟩ (fun j H' _ hP => SqT.of (hP.1 _ _ ht)) (fun j x H' hx hP => ?_) (fun H1 hP => ?_)⟩
      · obtain ⟨sH, hL⟩ := hP
        obtain ⟨hj, rfl⟩ := int_get hx
        refine ⟨rfl, _, rfl, rfl, _, rfl, ?_⟩
        rw [take_snoc hj, List.filter_append]
        by_cases d : co ns j = 0
        · rw [decide_eq_true (show V.int (co ns j) = V.int 0 by rw [d])]
          refine iteF ⟨sH, ?_⟩
          rw [hL, List.filter_cons_of_neg (by rw [d]; decide), List.filter_nil, List.append_nil]
        · rw [decide_eq_false fun z => d (V.int.inj z)]
          refine iteT ⟨_, rfl, _, hL, ?_, fun b o e => ?_, ?_⟩
          · have h1 := List.length_filter_le (fun x => x != 0) (ns.take j)
            rw [List.length_take] at h1
            rw [List.length_map]
            exact small1000 (by omega)
          · rw [upd_ne (ne_of_none e hD)]
            exact sH _ _ e
          · rw [upd_same, List.filter_cons_of_pos (by simpa using d), List.filter_nil, List.map_append]
            rfl
      · obtain ⟨s1, hL⟩ := hP
        rw [List.length_map, List.take_length, e1] at hL
        refine ⟨D, _, _, .int x0, rfl, rfl, SqL.of hL, atI_nat (j := 0) rfl, ?_⟩
        have ht1 := s1 _ _ ht
        refine ⟨_, rfl, t, rfl, ⟨_, SqT.of ht1⟩, fun D2 hD2 => lc_tup (xs := ns.map V.int) (fun j H' => H' = upd H1 D2 (.lst (tab j fun k => (co ns k).fdiv (part ns)))) rfl (fun j H' _ hP => ?_) (fun j x H' hx hP => ?_) (fun H' hP => ?_)⟩
        · rw [hP]
          exact SqT.of (same_upd0 hD2 _ _ ht1)
        · subst hP
          obtain ⟨hj, rfl⟩ := int_get hx
          refine ⟨rfl, _, rfl, _, rfl, x0, 0, rfl, rfl, _, rfl, ?_⟩
          have fin : ∀ v : Int, v = part ns → True := fun _ _ => True.intro
          by_cases d : 0 < x0
          · rw [decide_eq_true d]
            rw [if_pos d] at hpart
            rw [hpart] at hcd
            refine iteT ⟨_, rfl, _, _, rfl, rfl, hcd, _, upd_same, ?_, ?_⟩
            · rw [tab_len]
              exact small1000 (by omega)
            · rw [upd_upd, ← tab_snoc, hpart]
          · rw [decide_eq_false d]
            rw [if_neg d] at hpart
            rw [hpart] at hcd
            refine iteF ⟨_, rfl, _, _, rfl, rfl, _, _, rfl, rfl, hcd, _, upd_same, ?_, ?_⟩
            · rw [tab_len]
              exact small1000 (by omega)
            · rw [upd_upd, ← tab_snoc, hpart]
        · subst hP
          rw [List.length_map, tab_tb, tb_map (fun x => x.fdiv (part ns)) ns]
          refine .inl ⟨D2, _, rfl, SqL.of upd_same, fun p hp2 => ?_⟩
          refine q p _ (s1.trans ((same_upd0 hD2).trans (same_upd0 hp2))) ?_
          rw [upd_same]
          unfold prim
          rw [if_neg hp0]
end
end K49

set_option Elab.async false
set_option linter.all false
set_option maxRecDepth 100000
set_option maxHeartbeats 4000000
namespace K49
open PySem PySem.Spec PyProof.Rows L2 StX RZ MyR SlX OwnR OwnF EnumT
theorem prim_len (l : List Int) : (prim l).length = l.length := by
  unfold prim
  split
  · rfl
  · rw [List.length_map]
theorem prim_mem {l : List Int} {b : Nat} (h : ∀ x ∈ l, x.natAbs ≤ b) : ∀ x ∈ prim l, x.natAbs ≤ b := by
  intro x hx
  unfold prim at hx
  by_cases c : part l = 0
  · rw [if_pos c] at hx
    exact h x hx
  · rw [if_neg c] at hx
    obtain ⟨y, hy, rfl⟩ := List.mem_map.mp hx
    have hd : part l ∣ y := Int.natAbs_dvd_natAbs.mp (by rw [part_abs]; exact Int.natAbs_dvd_natAbs.mpr (cont_dvd l y hy))
    obtain ⟨k, rfl⟩ := hd
    show ((part l * k).fdiv (part l)).natAbs ≤ b
    rw [Int.mul_fdiv_cancel_left _ c]
    refine Nat.le_trans ?_ (h _ hy)
    rw [Int.natAbs_mul]
    exact Nat.le_mul_of_pos_left _ (Int.natAbs_pos.mpr c)
section
variable {P : Program} {w : World} {K : PySem.W.Frag} {mg : Str → Option Value} {base : Heap}
theorem dc_ne {H : Hp} {d p : Addr} {xs : List V} (hd : Dc H d) (hp : H p = some (.tup xs)) : p ≠ d := fun e => by
  obtain ⟨x, y, z, h⟩ := hd
  rw [e, h] at hp
  cases hp
def spLine : Sp := fun vs H Q _ => ∃ (t : Addr) (u v : Int), vs = [.ref t] ∧ H t = some (tp [u, v]) ∧ ∀ p, H p = none → Q (.ref p) (upd H p (tp [v, 0 - u]))
theorem ok_law_line (T : Facts K mg) : FnOk P w K mg base CX0 1 T.f_law_line T.fd_law_line ["_law_point_here"] spLine := by
  refine T.F_law_line.ok sc_law_line (fun vs H Q E h => ?_) (fun cdv A outer s H vs Q E hr h => ?_)
  · obtain ⟨t, u, v, rfl, _⟩ := h
    rfl
  · obtain ⟨t, u, v, rfl, ht, q⟩ := h
    refine ⟨_, (PSs.nox (pss_one (ps_ret (pe_tup (pa_cons (pe_ix ix_tup (pv 0) pe_int (fun _ _ => rfl)) (pa_cons (pe_op op_sub pe_int (pe_ix ix_tup (pv 0) pe_int (fun _ _ => rfl))) pa_nil)))))), ?_⟩
    exact ⟨_, rfl, t, _, 1, _, rfl, rfl, SqT.of ht, atI_nat (j := 1) rfl, _, rfl, t, _, 0, _, rfl, rfl, SqT.of ht, atI_nat (j := 0) rfl, _, _, rfl, rfl, (by show 2 ≤ sizeLine; decide), fun p hp => q p hp⟩
/-- a drawn point -/
def spPoint : Sp := fun vs H Q _ => ∃ (d : Addr) (m : Nat), vs = [.ref d, .int m] ∧ Dc H d ∧ 1 ≤ m ∧ m ≤ 1000 ∧ ∀ p H' u v, Sx d H H' → Dc H' d → H' p = some (tp [u, v]) → u.natAbs ≤ m → v.natAbs ≤ m → Q (.ref p) H'
theorem ok_law_point (T : Facts K mg) : FnOk P w K mg base CX0 4 T.f_law_point T.fd_law_point ["_law_dice_here", "_law_most"] spPoint := by
  have G_law_near : FnOk P w K mg base CX0 2 T.f_law_near T.fd_law_near ["_law_dice_here", "_law_most"] spNear := ok_law_near T
  have G_law_plain : FnOk P w K mg base CX0 3 T.f_law_plain T.fd_law_plain ["_law_form_here"] spPrim := ok_law_plain T
  refine T.F_law_point.ok sc_law_point (fun vs H Q E h => ?_) (fun cdv A outer s H vs Q E hr h => ?_)
  · obtain ⟨d, m, rfl, _⟩ := h
    rfl
  · obtain ⟨d, m, rfl, hd, h1, h2, q⟩ := h
    refine ⟨_, (PSs.nox (pss_cons (ps_par (i := 2) (j := 3) (by rfl) sc_law_point.nd rfl rfl (by decide) rfl rfl (pa_cons (pe_call G_law_near (hr.mono (by decide)) (by rfl) T.g_law_near T.F_law_near.kp T.b_law_near .nil pass0 (pa_cons (pv 0) (pa_cons (pv 1) pa_nil))) (pa_cons (pe_call G_law_near (hr.mono (by decide)) (by rfl) T.g_law_near T.F_law_near.kp T.b_law_near .nil pass0 (pa_cons (pv 0) (pa_cons (pv 1) pa_nil))) pa_nil)) (by rfl))
    (pss_one (ps_ret (pe_ifExp (pt_cmpR (op_neD (hu64 hr)) (pe_tup (pa_cons (pv 2) (pa_cons (pv 3) pa_nil))) (pe_tup (pa_cons pe_int (pa_cons pe_int pa_nil))) (nomark _)) (pe_call G_law_plain hr (by rfl) T.g_law_plain T.F_law_plain.kp T.b_law_plain .nil pass0 (pa_cons (pe_tup (pa_cons (pv 2) (pa_cons (pv 3) pa_nil))) pa_nil)) (pe_tup (pa_cons pe_int (pa_cons pe_int pa_nil)))))))), ?_⟩
    have e15 : (10 : Int) ^ 15 = 1000000000000000 := by decide
    have z2 : 2 ≤ sizeLine := by decide
    refine ⟨_, rfl, _, rfl, d, m, rfl, hd, by omega, by rw [e15]; omega, fun u H1 u1 u2 s1 d1 => ⟨_, rfl, _, rfl, d, m, rfl, d1, by omega, by rw [e15]; omega, fun v H2 v1 v2 s2 d2 => ⟨_, _, rfl, ?_⟩⟩⟩
    have s12 := s1.trans s2
    refine ⟨_, rfl, _, rfl, z2, fun p1 n1 => gen_upd H2 p1 (tp [u, v]) n1 fun H3 s3 f3 => ⟨z2, fun p2 n2 => gen_upd H3 p2 (tp [0, 0]) n2 fun H4 s4 f4 => ?_⟩⟩
    refine ne_ints (xs := [u, v]) (ys := [0, 0]) (SqT.of (s4 _ _ f3)) (SqT.of f4) ?_
    have d4 := d2.same (s3.trans s4)
    have s14 : Sx d H H4 := s12.trans (Sx.of (s3.trans s4))
    by_cases c : [u, v] = [0, 0]
    · rw [decide_eq_true c]
      refine ⟨_, rfl, iteF ⟨z2, fun p3 n3 => gen_upd H4 p3 (tp [1, 0]) n3 fun H5 s5 f5 => ?_⟩⟩
      exact q p3 H5 1 0 (s14.trans (Sx.of s5)) (d4.same s5) f5 (by show 1 ≤ m; omega) (by show 0 ≤ m; omega)
    · rw [decide_eq_false c]
      refine ⟨_, rfl, iteT ⟨_, rfl, _, rfl, z2, fun p3 n3 => gen_upd H4 p3 (tp [u, v]) n3 fun H5 s5 f5 => ?_⟩⟩
      have hb : ∀ x ∈ [u, v], x.natAbs ≤ m := fun x hx => by
        simp only [List.mem_cons, List.not_mem_nil, or_false] at hx
        rcases hx with e | e <;> rw [e] <;> omega
      refine ⟨p3, [u, v], rfl, f5, by show 2 ≤ 1000; omega, fun x hx => Nat.lt_of_le_of_lt (hb x hx) (Nat.lt_of_le_of_lt h2 (by decide)), fun p H6 s6 hp => ?_⟩
      have hl := prim_len [u, v]
      have hm := prim_mem hb
      generalize prim [u, v] = r at hp hl hm
      match r, hl with
      | [x, y], _ => exact q p H6 x y (s14.trans (Sx.of (s5.trans s6))) (d4.same (s5.trans s6)) hp (hm x (by simp)) (hm y (by simp))
/-- a drawn form -/
def spSmall : Sp := fun vs H Q _ => ∃ (d : Addr) (n m : Nat), vs = [.ref d, .int n, .int m] ∧ Dc H d ∧ n ≤ 40 ∧ m ≤ 1000000000000 ∧ ∀ p H' l, Sx d H H' → Dc H' d → H' p = some (tp l) → l.length = n + 1 → (∀ x ∈ l, x.natAbs ≤ m) → Q (.ref p) H'
theorem ok_law_small_form (T : Facts K mg) : FnOk P w K mg base CX0 3 T.f_law_small_form T.fd_law_small_form ["_law_dice_here", "_law_degree", "_law_most"] spSmall := by
  have G_law_near : FnOk P w K mg base CX0 2 T.f_law_near T.fd_law_near ["_law_dice_here", "_law_most"] spNear := ok_law_near T
  refine T.F_law_small_form.ok sc_law_small_form (fun vs H Q E h => ?_) (fun cdv A outer s H vs Q E hr h => ?_)
  · obtain ⟨d, n, m, rfl, _⟩ := h
    rfl
  · obtain ⟨d, n, m, rfl, hd, hn, hm, q⟩ := h
    refine ⟨_, (PSs.nox (pss_one (ps_ret (pe_tupleOf (by rfl) T.z_tuple (pe_lc (own := [("_law_place", 3)]) (g := (gName 3)) (tt := tYes) (by rfl) sc_law_small_form.nd (pi_range1 (by rfl) T.z_range (pa_cons (pe_op op_add (pv 1) pe_int) pa_nil)) (blkOk_by (N := N_law_small_form) (sc := defScope s_law_small_form) (by decide +kernel)) (fun _ _ _ _ _ => (pg_name (i := 3) sc_law_small_form.nd rfl (.inl rfl))) (fun _ _ _ _ _ => pts_nil) (fun _ _ _ _ _ => (pe_call G_law_near hr (by rfl) T.g_law_near T.F_law_near.kp T.b_law_near .nil pass0 (pa_cons (pv 0) (pa_cons (pv 2) pa_nil))))))))), ?_⟩
    have e15 : (10 : Int) ^ 15 = 1000000000000000 := by decide
    refine ⟨_, rfl, _, _, rfl, rfl, _, rfl, (by show -(2 ^ 62) ≤ (n : Int) + 1; omega), (by show (n : Int) + 1 < 2 ^ 62; omega), fun D hD => lc_range (n := ((n : Int) + 1).toNat) (fun j H' => Sx d H H' ∧ Dc H' d ∧ ∃ l : List Int, H' D = some (.lst (l.map V.int)) ∧ l.length = j ∧ ∀ x ∈ l, x.natAbs ≤ m) ⟨Sx.of (same_upd0 hD), hd.same (same_upd0 hD), [], upd_same, rfl, fun x hx => by cases hx⟩ (fun j H' hj hP => ?_) (fun H' hP => ?_)⟩
    · obtain ⟨sH, dH, l, hL, hl, hb⟩ := hP
      have nD : D ≠ d := hd.ne hD
      refine ⟨rfl, _, rfl, _, rfl, d, m, rfl, dH, by omega, by rw [e15]; omega, fun r H2 r1 r2 s2 d2 => ⟨_, s2 D _ nD hL, ?_, fun b o hb2 e => ?_, ?_, l ++ [r], ?_, ?_, fun x hx => ?_⟩⟩
      · rw [List.length_map]
        exact small1000 (by omega)
      · rw [upd_ne (ne_of_none e hD)]
        exact (sH.trans s2) b o hb2 e
      · obtain ⟨x, y, z, e⟩ := d2
        exact ⟨x, y, z, by rw [upd_ne (Ne.symm nD)]; exact e⟩
      · rw [upd_same, List.map_append]
        rfl
      · rw [List.length_append, hl]
        rfl
      · rcases List.mem_append.mp hx with e | e
        · exact hb x e
        · rw [List.mem_singleton.mp e]
          omega
    · obtain ⟨sH, dH, l, hL, hl, hb⟩ := hP
      refine .inl ⟨D, _, rfl, SqL.of hL, fun p hp2 => ?_⟩
      exact q p _ l (sH.trans (Sx.of (same_upd0 hp2))) (dH.same (same_upd0 hp2)) upd_same (by omega) hb
end
end K49

set_option Elab.async false
set_option linter.all false
set_option maxRecDepth 100000
/-! how large the entries of products are -/
namespace K49
/-- the sum of the first n absolute values -/
def sN : Nat → (Nat → Int) → Nat
  | 0, _ => 0
  | n + 1, f => sN n f + (f n).natAbs
/-- the sum of the absolute values of the entries -/
def nm (l : List Int) : Nat := (l.map Int.natAbs).sum
theorem sN_add (f g : Nat → Int) : ∀ n, sN n (fun k => f k + g k) ≤ sN n f + sN n g
  | 0 => Nat.le_refl _
  | n + 1 => by
    have h1 := sN_add f g n
    have h2 := Int.natAbs_add_le (f n) (g n)
    show sN n (fun k => f k + g k) + (f n + g n).natAbs ≤ sN n f + (f n).natAbs + (sN n g + (g n).natAbs)
    omega
theorem sN_mul (c : Int) (f : Nat → Int) : ∀ n, sN n (fun k => c * f k) = c.natAbs * sN n f
  | 0 => rfl
  | n + 1 => by
    show sN n (fun k => c * f k) + (c * f n).natAbs = c.natAbs * (sN n f + (f n).natAbs)
    rw [sN_mul c f n, Int.natAbs_mul, Nat.mul_add]
theorem sN_sh (f : Nat → Int) : ∀ n, sN n (sh f) ≤ sN n f
  | 0 => Nat.le_refl _
  | 1 => Nat.zero_le _
  | n + 2 => by
    have key : ∀ n, sN (n + 1) (sh f) = sN n f := by
      intro n
      induction n with
      | zero => rfl
      | succ n ih =>
        show sN (n + 1) (sh f) + (f n).natAbs = sN n f + (f n).natAbs
        rw [ih]
    rw [key]
    exact Nat.le_add_right _ _
theorem sN_cv (g : Nat → Int) (n : Nat) : ∀ l : List Int, sN n (cv l g) ≤ nm l * sN n g
  | [] => by
    have : sN n (cv [] g) = 0 := by
      induction n with
      | zero => rfl
      | succ n ih => show sN n (cv [] g) + (0 : Int).natAbs = 0; rw [ih]; rfl
    omega
  | x :: xs => by
    have h1 := sN_cv g n xs
    have e : sN n (cv (x :: xs) g) = sN n (fun k => x * g k + sh (cv xs g) k) := by
      rw [show cv (x :: xs) g = fun k => x * g k + sh (cv xs g) k from funext (cv_cons x xs g)]
    have h2 := sN_add (fun k => x * g k) (sh (cv xs g)) n
    have h3 := sN_sh (cv xs g) n
    rw [e]
    rw [sN_mul] at h2
    show _ ≤ (x.natAbs + nm xs) * sN n g
    rw [Nat.add_mul]
    omega
theorem nm_snoc (l : List Int) (x : Int) : nm (l ++ [x]) = nm l + x.natAbs := by
  unfold nm
  rw [List.map_append, List.sum_append]
  simp
theorem nm_tb (f : Nat → Int) : ∀ n, nm (tb n f) = sN n f
  | 0 => rfl
  | n + 1 => by
    have e : tb (n + 1) f = tb n f ++ [f n] := by
      unfold tb
      rw [List.range_succ, List.map_append]
      rfl
    rw [e, nm_snoc, nm_tb f n]
    rfl
theorem nm_mem : ∀ {l : List Int} {x : Int}, x ∈ l → x.natAbs ≤ nm l
  | y :: ys, x, h => by
    show x.natAbs ≤ y.natAbs + nm ys
    rcases List.mem_cons.mp h with e | e
    · rw [e]; omega
    · have := nm_mem e; omega
theorem sN_co (l : List Int) (n : Nat) : sN n (co l) ≤ nm l := by
  by_cases h : n ≤ l.length
  · have mono : ∀ k, sN n (co l) ≤ sN (n + k) (co l) := by
      intro k
      induction k with
      | zero => exact Nat.le_refl _
      | succ k ih => exact Nat.le_trans ih (Nat.le_add_right _ _)
    have h1 := mono (l.length - n)
    rw [show n + (l.length - n) = l.length by omega] at h1
    rw [← nm_tb (co l) l.length, tb_co] at h1
    exact h1
  · have far : ∀ k, sN (l.length + k) (co l) = sN l.length (co l) := by
      intro k
      induction k with
      | zero => rfl
      | succ k ih =>
        show sN (l.length + k) (co l) + (co l (l.length + k)).natAbs = _
        rw [ih, co_far (by omega)]
        rfl
    have h1 := far (n - l.length)
    rw [show l.length + (n - l.length) = n by omega] at h1
    rw [h1, ← nm_tb (co l) l.length, tb_co]
    exact Nat.le_refl _
theorem nm_ml (l m : List Int) : nm (ml l m) ≤ nm l * nm m := by
  unfold ml
  rw [nm_tb]
  exact Nat.le_trans (sN_cv _ _ l) (Nat.mul_le_mul (Nat.le_refl _) (sN_co m _))
theorem nm_pl : ∀ (l m : List Int), nm (pl l m) ≤ nm l + nm m
  | [], _ => Nat.zero_le _
  | _ :: _, [] => Nat.zero_le _
  | x :: xs, y :: ys => by
    have h1 := nm_pl xs ys
    have h2 := Int.natAbs_add_le x y
    show (x + y).natAbs + nm (pl xs ys) ≤ x.natAbs + nm xs + (y.natAbs + nm ys)
    omega
theorem nm_scale (c : Int) : ∀ l : List Int, nm (l.map (c * ·)) = c.natAbs * nm l
  | [] => rfl
  | x :: xs => by
    show (c * x).natAbs + nm (xs.map (c * ·)) = c.natAbs * (x.natAbs + nm xs)
    rw [nm_scale c xs, Int.natAbs_mul, Nat.mul_add]
theorem nm_le {b : Nat} : ∀ {l : List Int}, (∀ x ∈ l, x.natAbs ≤ b) → nm l ≤ l.length * b
  | [], _ => Nat.zero_le _
  | x :: xs, h => by
    have h1 := nm_le (l := xs) fun y hy => h y (List.mem_cons_of_mem _ hy)
    have h2 := h x List.mem_cons_self
    show x.natAbs + nm xs ≤ (xs.length + 1) * b
    rw [Nat.succ_mul]
    omega
end K49

set_option Elab.async false
set_option linter.all false
set_option maxRecDepth 100000
set_option maxHeartbeats 4000000
namespace K49
open PySem PySem.Spec PyProof.Rows L2 StX RZ MyR SlX OwnR OwnF EnumT
/-- the texts of ints -/
def ntx (l : List Int) : List Str := l.map fun x => Str.ofString (toString x)
theorem lenApp (a b : Str) : (a ++ b).length = a.length + b.length := Array.size_append
theorem join_le (y : Str) : ∀ parts : List Str, (Txt.join y parts).length ≤ (parts.map (·.length)).sum + parts.length * y.length
  | [] => by rw [TL.join_eq]; exact Nat.zero_le _
  | [x] => by
    rw [TL.join_eq]
    show x.length ≤ (x.length + 0) + 1 * y.length
    omega
  | x :: z :: r => by
    have h := join_le y (z :: r)
    rw [TL.join_eq] at h ⊢
    show (x ++ y ++ Str.join y (z :: r)).length ≤ (x.length + ((z :: r).map (·.length)).sum) + ((z :: r).length + 1) * y.length
    rw [lenApp, lenApp, Nat.succ_mul]
    omega
section
variable {P : Program} {w : World} {K : PySem.W.Frag} {mg : Str → Option Value} {base : Heap}
end
end K49

set_option Elab.async false
set_option linter.all false
set_option maxRecDepth 100000
set_option maxHeartbeats 4000000
namespace K49
open PySem PySem.Spec PyProof.Rows L2 StX RZ MyR SlX OwnR OwnF EnumT
/-- the product of the first i rows -/
def allP (ls : List (List Int)) (i : Nat) : List Int := (ls.take i).foldl ml [1]
theorem allP_succ {ls : List (List Int)} {i : Nat} (h : i < ls.length) : allP ls (i + 1) = ml (allP ls i) ls[i] := by
  unfold allP
  rw [List.take_add_one, List.getElem?_eq_getElem h, List.foldl_append]
  rfl
section
variable {P : Program} {w : World} {K : PySem.W.Frag} {mg : Str → Option Value} {base : Heap}
def spAll : Sp := fun vs H Q _ => ∃ (l : Addr) (rs : List Addr) (ls : List (List Int)), vs = [.ref l] ∧ H l = some (.lst (rs.map V.ref)) ∧ rs.length = ls.length ∧ (∀ i (h : i < ls.length) (h' : i < rs.length), H rs[i] = some (tp ls[i]) ∧ Rw ls[i]) ∧ (∀ i, i < ls.length → Rw (allP ls i)) ∧ ∀ p H', Same H H' → H' p = some (tp (allP ls ls.length)) → Q (.ref p) H'
theorem ok_law_all_product (T : Facts K mg) : FnOk P w K mg base CX0 2 T.f_law_all_product T.fd_law_all_product ["_law_forms"] spAll := by
  have G_law_product : FnOk P w K mg base CX0 1 T.f_law_product T.fd_law_product ["_law_one", "_law_other"] spProd := ok_law_product T
  refine T.F_law_all_product.ok sc_law_all_product (fun vs H Q E h => ?_) (fun cdv A outer s H vs Q E hr h => ?_)
  · obtain ⟨l, rs, ls, rfl, _⟩ := h
    rfl
  · obtain ⟨l, rs, ls, rfl, hl, hlen, hrow, hall, q⟩ := h
    refine ⟨_, (PSs.nox (pss_cons (ps_set (i := 1) sc_law_all_product.nd rfl (.inl rfl) (pe_tup (pa_cons pe_int pa_nil)))
    (pss_cons (ps_for PassesOwn.never (by rfl) (pi_list (pv 0)) (pg_name (i := 2) sc_law_all_product.nd rfl (.inl rfl))
      (pss_one (ps_set (i := 1) sc_law_all_product.nd rfl (.inl rfl) (pe_call G_law_product hr (by rfl) T.g_law_product T.F_law_product.kp T.b_law_product .nil pass0 (pa_cons (pv 1) (pa_cons (pv 2) pa_nil))))))
    (pss_one (ps_ret (pv 1)))))), ?_⟩
    refine ⟨(by show 1 ≤ sizeLine; decide), fun p0 n0 => ⟨_, rfl, l, rfl, ⟨_, SqL.of (same_upd0 n0 _ _ hl)⟩, for_list (xs := rs.map V.ref) (fun i σ H' => ∃ r y, σ = [some (.ref l), some (.ref r), y] ∧ Same H H' ∧ H' r = some (tp (allP ls i))) ⟨p0, none, rfl, same_upd0 n0, upd_same⟩ (fun i σ H' _ hP => ?_) (fun i x σ H' hx hP => ?_) (fun σ H' hP => ?_)⟩⟩
    · obtain ⟨r, y, _, sH, _⟩ := hP
      exact SqL.of (sH _ _ hl)
    · obtain ⟨r, y, rfl, sH, hr2⟩ := hP
      rw [List.getElem?_map] at hx
      obtain ⟨b, hb, rfl⟩ := Option.map_eq_some_iff.mp hx
      obtain ⟨h1, e1⟩ := List.getElem?_eq_some_iff.mp hb
      have h2 : i < ls.length := by omega
      obtain ⟨hb2, rb⟩ := hrow i h2 h1
      rw [e1] at hb2
      have ra := hall i h2
      exact ⟨_, rfl, _, rfl, r, b, _, ls[i], rfl, hr2, sH _ _ hb2, ra.ne, rb.ne, ra.len, rb.len, ra.sm, rb.sm, fun p H2 s2 _ hp2 => ⟨p, _, rfl, sH.trans s2, by rw [allP_succ h2]; exact hp2⟩⟩
    · obtain ⟨r, y, rfl, sH, hr2⟩ := hP
      rw [List.length_map, hlen] at hr2
      exact ⟨_, rfl, q r H' sH hr2⟩
end
end K49

set_option Elab.async false
set_option linter.all false
set_option maxRecDepth 100000
/-! the primitive row of a primitive row -/
namespace K49
end K49

set_option Elab.async false
set_option linter.all false
set_option maxRecDepth 100000
/-! sums of rows, rows of 0 -/
namespace K49
theorem zs_one : ∀ xs ys : List Int, zs 1 xs ys = pl xs ys
  | [], _ => rfl
  | _ :: _, [] => rfl
  | x :: xs, y :: ys => by
    show (x + 1 * y) :: zs 1 xs ys = (x + y) :: pl xs ys
    rw [zs_one xs ys, Int.one_mul]
theorem any_cont : ∀ l : List Int, (!l.any (· != 0)) = decide (cont l = 0)
  | [] => rfl
  | x :: xs => by
    have h := any_cont xs
    rw [List.any_cons, Bool.not_or, h]
    by_cases c : x = 0
    · have e : cont (x :: xs) = cont xs := by
        show Nat.gcd x.natAbs (cont xs) = _
        rw [c]
        exact Nat.gcd_zero_left _
      rw [e, c]
      rfl
    · have e : cont (x :: xs) ≠ 0 := fun z => c (cont_zero z x List.mem_cons_self)
      rw [decide_eq_false e]
      have : (x != 0) = true := by simpa using c
      rw [this]
      rfl
end K49

set_option Elab.async false
set_option linter.all false
set_option maxRecDepth 100000
set_option maxHeartbeats 4000000
namespace K49
open PySem PySem.Spec PyProof.Rows L2 StX RZ MyR SlX OwnR OwnF EnumT
/-! ### drawn forms -/
/-- a row of a degree, with its size -/
structure Bd (l : List Int) (n b : Nat) : Prop where
  len : l.length = n + 1
  nm : nm l ≤ b
theorem Bd.ne {l : List Int} {n b : Nat} (h : Bd l n b) : l ≠ [] := fun e => by
  have := h.len
  rw [e] at this
  cases this
theorem Bd.mono {l : List Int} {n b c : Nat} (h : Bd l n b) (k : b ≤ c) : Bd l n c := ⟨h.len, Nat.le_trans h.nm k⟩
theorem Bd.mem {l : List Int} {n b : Nat} (h : Bd l n b) : ∀ x ∈ l, x.natAbs ≤ b := fun x hx => Nat.le_trans (nm_mem hx) h.nm
theorem Bd.rw {l : List Int} {n b : Nat} (h : Bd l n b) (hn : n ≤ 99) (hb : b < 2 ^ 4000) : Rw l := ⟨h.ne, by rw [h.len]; omega, fun x hx => Nat.lt_of_le_of_lt (h.mem x hx) hb⟩
theorem bd_ml {l m : List Int} {n k b c : Nat} (h : Bd l n b) (g : Bd m k c) : Bd (ml l m) (n + k) (b * c) :=
  ⟨by rw [ml_len, h.len, g.len]; omega, Nat.le_trans (nm_ml l m) (Nat.mul_le_mul h.nm g.nm)⟩
theorem bd_one : Bd [1] 0 1 := ⟨rfl, Nat.le_refl _⟩
theorem bd_line {u v : Int} {m : Nat} (hu : u.natAbs ≤ m) (hv : v.natAbs ≤ m) : Bd [v, 0 - u] 1 (2 * m) := ⟨rfl, by
  show v.natAbs + ((0 - u).natAbs + 0) ≤ _
  omega⟩
theorem bd_pair {u v : Int} {m : Nat} (hu : u.natAbs ≤ m) (hv : v.natAbs ≤ m) : Bd [u, v] 1 (2 * m) := ⟨rfl, by
  show u.natAbs + (v.natAbs + 0) ≤ _
  omega⟩
theorem bd_small {l : List Int} {n m : Nat} (hl : l.length = n + 1) (h : ∀ x ∈ l, x.natAbs ≤ m) : Bd l n ((n + 1) * m) := ⟨hl, by
  have := nm_le h
  rw [hl] at this
  exact this⟩
theorem bd_pow {l : List Int} {b : Nat} (h : Bd l 1 b) : ∀ i, Bd (pow l i) i (b ^ i)
  | 0 => bd_one
  | i + 1 => by
    rw [Nat.pow_succ]
    exact bd_ml (bd_pow h i) h
theorem bd_all {ls : List (List Int)} {b : Nat} (h : ∀ l ∈ ls, Bd l 1 b) : ∀ i, i ≤ ls.length → Bd (allP ls i) i (b ^ i)
  | 0, _ => bd_one
  | i + 1, hi => by
    rw [Nat.pow_succ, allP_succ hi]
    exact bd_ml (bd_all h i (by omega)) (h _ (List.getElem_mem hi))
theorem bd_zs {l m : List Int} {n b c : Nat} (h : Bd l n b) (g : Bd m n c) : Bd (zs 1 l m) n (b + c) := by
  rw [zs_one]
  exact ⟨by rw [pl_len (by rw [h.len, g.len]), h.len], Nat.le_trans (nm_pl l m) (Nat.add_le_add h.nm g.nm)⟩
theorem bd_scale {l : List Int} {n b d : Nat} {c : Int} (h : Bd l n b) (hc : c.natAbs ≤ d) : Bd (l.map (c * ·)) n (d * b) := ⟨by rw [List.length_map, h.len], by
  rw [nm_scale]
  exact Nat.mul_le_mul hc h.nm⟩
theorem p6 {i : Nat} (h : i ≤ 8) : 6 ^ i ≤ 1679616 := Nat.le_trans (Nat.pow_le_pow_right (by decide) h) (by decide)
theorem iteI {i j : Int} {A B : Prop} (h1 : i = j → A) (h2 : i ≠ j → B) : if decide (V.int i = V.int j) = true then A else B := by
  by_cases h : i = j
  · rw [decide_eq_true (by rw [h])]
    exact iteT (h1 h)
  · rw [decide_eq_false fun z => h (V.int.inj z)]
    exact iteF (h2 h)
section
variable {P : Program} {w : World} {K : PySem.W.Frag} {mg : Str → Option Value} {base : Heap}
def spDrawn : Sp := fun vs H Q _ => ∃ (d : Addr) (n : Nat), vs = [.ref d, .int n] ∧ Dc H d ∧ n ≤ 8 ∧ ∀ p H' l, Sx d H H' → Dc H' d → H' p = some (tp l) → Bd l n (10 ^ 14) → Q (.ref p) H'
theorem ok_law_form (T : Facts K mg) : FnOk P w K mg base CX0 5 T.f_law_form T.fd_law_form ["_law_dice_here", "_law_degree"] spDrawn := by
  have G_law_roll : FnOk P w K mg base CX0 1 T.f_law_roll T.fd_law_roll ["_law_dice_here", "_law_total"] spRoll2 := (ok_law_roll T).imp roll2
  have G_law_near : FnOk P w K mg base CX0 2 T.f_law_near T.fd_law_near ["_law_dice_here", "_law_most"] spNear := ok_law_near T
  have G_law_plus := ok_law_plus (P := P) (w := w) (base := base) T
  have G_law_scaled := ok_law_scaled (P := P) (w := w) (base := base) T
  have G_law_product := ok_law_product (P := P) (w := w) (base := base) T
  have G_law_all_product := ok_law_all_product (P := P) (w := w) (base := base) T
  have G_law_power := ok_law_power (P := P) (w := w) (base := base) T
  have G_law_line := ok_law_line (P := P) (w := w) (base := base) T
  have G_law_point := ok_law_point (P := P) (w := w) (base := base) T
  have G_law_small_form := ok_law_small_form (P := P) (w := w) (base := base) T
  refine T.F_law_form.ok sc_law_form (fun vs H Q E h => ?_) (fun cdv A outer s H vs Q E hr h => ?_)
  · obtain ⟨d, n, rfl, _⟩ := h
    rfl
  · obtain ⟨d, n, rfl, hd, hn, q⟩ := h
    have e15 : (10 : Int) ^ 15 = 1000000000000000 := by decide
    have e14 : (10 : Nat) ^ 14 = 100000000000000 := by decide
    rw [e14] at q
    have lg : ∀ i : Nat, i < 100 → (i : Int).natAbs.log2 < 9000 := fun i hi => Nat.lt_trans (PySem.Flt.log2_lt_of (k := 10) (by decide) (by show i < 2 ^ 10; omega)) (by decide)
    refine ⟨_, (PSs.nox (pss_cons (ps_set (i := 2) sc_law_form.nd rfl (.inl rfl) (pe_call G_law_roll (hr.mono (by decide)) (by rfl) T.g_law_roll T.F_law_roll.kp T.b_law_roll .nil pass0 (pa_cons (pv 0) (pa_cons pe_int pa_nil))))
    (pss_cons (ps_if (pt_cmpR op_eq (pv 2) pe_int (nomark _))
      (pss_one (ps_ret (pe_call G_law_all_product (hr.mono (by decide)) (by rfl) T.g_law_all_product T.F_law_all_product.kp T.b_law_all_product .nil pass0 (pa_cons (pe_lc (own := [("_law_turn", 3)]) (g := (gName 3)) (tt := tYes) (by rfl) sc_law_form.nd (pi_range1 (by rfl) T.z_range (pa_cons (pv 1) pa_nil)) (blkOk_by (N := N_law_form) (sc := defScope s_law_form) (by decide +kernel)) (fun _ _ _ _ _ => (pg_name (i := 3) sc_law_form.nd rfl (.inl rfl))) (fun _ _ _ _ _ => pts_nil) (fun _ _ _ _ _ => (pe_call G_law_line (hr.mono (by decide)) (by rfl) T.g_law_line T.F_law_line.kp T.b_law_line .nil pass0 (pa_cons (pe_call G_law_point hr (by rfl) T.g_law_point T.F_law_point.kp T.b_law_point .nil pass0 (pa_cons (pv 0) (pa_cons pe_int pa_nil))) pa_nil)))) pa_nil))))
      pss_nil)
    (pss_cons (ps_if (pt_cmpR op_eq (pv 2) pe_int (nomark _))
      (pss_cons (ps_par (i := 4) (j := 5) (by rfl) sc_law_form.nd rfl rfl (by decide) rfl rfl (pa_cons (pe_call G_law_line (hr.mono (by decide)) (by rfl) T.g_law_line T.F_law_line.kp T.b_law_line .nil pass0 (pa_cons (pe_call G_law_point hr (by rfl) T.g_law_point T.F_law_point.kp T.b_law_point .nil pass0 (pa_cons (pv 0) (pa_cons pe_int pa_nil))) pa_nil)) (pa_cons (pe_call G_law_roll (hr.mono (by decide)) (by rfl) T.g_law_roll T.F_law_roll.kp T.b_law_roll .nil pass0 (pa_cons (pv 0) (pa_cons (pe_op op_add (pv 1) pe_int) pa_nil))) pa_nil)) (by rfl))
      (pss_one (ps_ret (pe_call G_law_product (hr.mono (by decide)) (by rfl) T.g_law_product T.F_law_product.kp T.b_law_product .nil pass0 (pa_cons (pe_call G_law_power (hr.mono (by decide)) (by rfl) T.g_law_power T.F_law_power.kp T.b_law_power .nil pass0 (pa_cons (pv 4) (pa_cons (pv 5) pa_nil))) (pa_cons (pe_call G_law_small_form (hr.mono (by decide)) (by rfl) T.g_law_small_form T.F_law_small_form.kp T.b_law_small_form .nil pass0 (pa_cons (pv 0) (pa_cons (pe_op op_sub (pv 1) (pv 5)) (pa_cons pe_int pa_nil)))) pa_nil))))))
      pss_nil)
    (pss_cons (ps_if (pt_cmpR op_eq (pv 2) pe_int (nomark _))
      (pss_cons (ps_set (i := 6) sc_law_form.nd rfl (.inl rfl) (pe_tupleOf (by rfl) T.z_tuple (pe_lc (own := [("_law_place", 7)]) (g := (gName 7)) (tt := tYes) (by rfl) sc_law_form.nd (pi_range1 (by rfl) T.z_range (pa_cons (pe_op op_add (pv 1) pe_int) pa_nil)) (blkOk_by (N := N_law_form) (sc := defScope s_law_form) (by decide +kernel)) (fun _ _ _ _ _ => (pg_name (i := 7) sc_law_form.nd rfl (.inl rfl))) (fun _ _ _ _ _ => pts_nil) (fun _ _ _ _ _ => pe_int))))
      (pss_cons (ps_for PassesOwn.never (by rfl) (pi_range1 (by rfl) T.z_range (pa_cons (pe_op op_add pe_int (pe_call G_law_roll (hr.mono (by decide)) (by rfl) T.g_law_roll T.F_law_roll.kp T.b_law_roll .nil pass0 (pa_cons (pv 0) (pa_cons pe_int pa_nil)))) pa_nil)) (pg_name (i := 3) sc_law_form.nd rfl (.inl rfl))
        (pss_one (ps_set (i := 6) sc_law_form.nd rfl (.inl rfl) (pe_call G_law_plus (hr.mono (by decide)) (by rfl) T.g_law_plus T.F_law_plus.kp T.b_law_plus .nil pass0 (pa_cons (pv 6) (pa_cons (pe_call G_law_scaled (hr.mono (by decide)) (by rfl) T.g_law_scaled T.F_law_scaled.kp T.b_law_scaled .nil pass0 (pa_cons (pe_call G_law_power (hr.mono (by decide)) (by rfl) T.g_law_power T.F_law_power.kp T.b_law_power .nil pass0 (pa_cons (pe_call G_law_point hr (by rfl) T.g_law_point T.F_law_point.kp T.b_law_point .nil pass0 (pa_cons (pv 0) (pa_cons pe_int pa_nil))) (pa_cons (pv 1) pa_nil))) (pa_cons (pe_call G_law_near (hr.mono (by decide)) (by rfl) T.g_law_near T.F_law_near.kp T.b_law_near .nil pass0 (pa_cons (pv 0) (pa_cons pe_int pa_nil))) pa_nil))) pa_nil))))))
      (pss_one (ps_ret (pv 6)))))
      pss_nil)
    (pss_cons (ps_if (pt_cmpR op_eq (pv 2) pe_int (nomark _))
      (pss_one (ps_ret (pe_tupleOf (by rfl) T.z_tuple (pe_lc (own := [("_law_place", 7)]) (g := (gName 7)) (tt := tYes) (by rfl) sc_law_form.nd (pi_range1 (by rfl) T.z_range (pa_cons (pe_op op_add (pv 1) pe_int) pa_nil)) (blkOk_by (N := N_law_form) (sc := defScope s_law_form) (by decide +kernel)) (fun _ _ _ _ _ => (pg_name (i := 7) sc_law_form.nd rfl (.inl rfl))) (fun _ _ _ _ _ => pts_nil) (fun _ _ _ _ _ => (pe_op op_mulW (pe_call G_law_near (hr.mono (by decide)) (by rfl) T.g_law_near T.F_law_near.kp T.b_law_near .nil pass0 (pa_cons (pv 0) (pa_cons pe_int pa_nil))) (pe_call G_law_roll (hr.mono (by decide)) (by rfl) T.g_law_roll T.F_law_roll.kp T.b_law_roll .nil pass0 (pa_cons (pv 0) (pa_cons pe_int pa_nil)))))))))
      pss_nil)
    (pss_cons (ps_if (pw_and (pt_cmpR op_eq (pv 2) pe_int (nomark _)) (pw_and1 (pt_cmpR op_eq (pe_call G_law_roll (hr.mono (by decide)) (by rfl) T.g_law_roll T.F_law_roll.kp T.b_law_roll .nil pass0 (pa_cons (pv 0) (pa_cons pe_int pa_nil))) pe_int (nomark _)))).pt
      (pss_one (ps_ret (pe_tupleOf (by rfl) T.z_tuple (pe_lc (own := [("_law_place", 7)]) (g := (gName 7)) (tt := tYes) (by rfl) sc_law_form.nd (pi_range1 (by rfl) T.z_range (pa_cons (pe_op op_add (pv 1) pe_int) pa_nil)) (blkOk_by (N := N_law_form) (sc := defScope s_law_form) (by decide +kernel)) (fun _ _ _ _ _ => (pg_name (i := 7) sc_law_form.nd rfl (.inl rfl))) (fun _ _ _ _ _ => pts_nil) (fun _ _ _ _ _ => (pe_call G_law_near (hr.mono (by decide)) (by rfl) T.g_law_near T.F_law_near.kp T.b_law_near .nil pass0 (pa_cons (pv 0) (pa_cons (pe_op op_pow pe_int pe_int) pa_nil))))))))
      pss_nil)
    (pss_one (ps_ret (pe_call G_law_small_form (hr.mono (by decide)) (by rfl) T.g_law_small_form T.F_law_small_form.kp T.b_law_small_form .nil pass0 (pa_cons (pv 0) (pa_cons (pv 1) (pa_cons pe_int pa_nil))))))))))))), ?_⟩
    refine ⟨_, rfl, d, 6, rfl, hd, by decide, lg 6 (by decide), fun r H1 hr1 s1 d1 => ⟨_, rfl, rfl, _, rfl, iteI (fun _ => ?_) (fun r0 => ⟨_, rfl, rfl, _, rfl, iteI (fun _ => ?_) (fun r1 => ⟨_, rfl, rfl, _, rfl, iteI (fun _ => ?_) (fun r2 => ⟨_, rfl, rfl, _, rfl, iteI (fun _ => ?_) (fun r3 => ?_)⟩)⟩)⟩)⟩⟩
    · -- lines
      refine ⟨_, rfl, n, rfl, by omega, by omega, fun D hD => lc_range (n := (n : Int).toNat) (fun j H' => Sx d H H' ∧ Dc H' d ∧ ∃ (rs : List Addr) (ls : List (List Int)), H' D = some (.lst (rs.map V.ref)) ∧ rs.length = j ∧ ls.length = j ∧ (∀ i (h : i < ls.length) (h' : i < rs.length), H' rs[i] = some (tp ls[i])) ∧ ∀ l ∈ ls, Bd l 1 6) ⟨s1.trans (Sx.of (same_upd0 hD)), d1.same (same_upd0 hD), [], [], upd_same, rfl, rfl, fun i h _ => absurd h (Nat.not_lt_zero i), fun l h => (nomatch h)⟩ (fun j H' hj hP => ?_) (fun H' hP => ?_)⟩
      · obtain ⟨sH, dH, rs, ls, hL, hl1, hl2, hr, hb⟩ := hP
        refine ⟨rfl, _, rfl, d, 3, rfl, dH, by decide, by decide, fun p H2 u v s2 d2 hp hu hv => ⟨p, u, v, rfl, hp, fun p2 n2 => gen_upd H2 p2 _ n2 fun H3 s3 f3 => ?_⟩⟩
        have nD : D ≠ d := d1.ne hD
        have hL3 := s3 _ _ (s2 D _ nD hL)
        have dD : ∀ a l, H3 a = some (tp l) → a ≠ D := fun a l e z => by
          rw [z, hL3] at e
          cases e
        have d3 := d2.same s3
        refine ⟨_, hL3, by rw [List.length_map, hl1]; exact small1000 (by omega), fun b o hb2 e => ?_, ?_, rs ++ [p2], ls ++ [[v, 0 - u]], by rw [upd_same, List.map_append]; rfl, by rw [List.length_append, hl1]; rfl, by rw [List.length_append, hl2]; rfl, fun i h h' => ?_, fun l hl => ?_⟩
        · rw [upd_ne (ne_of_none (s1 b o hb2 e) hD)]
          exact s3 _ _ (s2 b o hb2 (sH b o hb2 e))
        · obtain ⟨x, y, z, e⟩ := d3
          exact ⟨x, y, z, by rw [upd_ne (Ne.symm nD)]; exact e⟩
        · by_cases c : i < ls.length
          · have e1 : (rs ++ [p2])[i] = rs[i]'(by omega) := List.getElem_append_left _
            have e2 : (ls ++ [[v, 0 - u]])[i] = ls[i] := List.getElem_append_left _
            rw [e1, e2]
            have e3 := s3 _ _ (s2 _ _ (dc_ne dH (hr i c (by omega))) (hr i c (by omega)))
            rw [upd_ne (dD _ _ e3)]
            exact e3
          · have ei : i = ls.length := by rw [List.length_append] at h; simp at h; omega
            subst ei
            have e1 : (rs ++ [p2])[ls.length] = p2 := by rw [List.getElem_append_right (by omega)]; simp [hl1, hl2]
            have e2 : (ls ++ [[v, 0 - u]])[ls.length] = [v, 0 - u] := by rw [List.getElem_append_right (by omega)]; simp
            rw [e1, e2, upd_ne (dD _ _ f3)]
            exact f3
        · rcases List.mem_append.mp hl with e | e
          · exact hb l e
          · rw [List.mem_singleton.mp e]
            exact bd_line hu hv
      · obtain ⟨sH, dH, rs, ls, hL, hl1, hl2, hr, hb⟩ := hP
        have hnn : ls.length = n := by omega
        refine ⟨D, rs, ls, rfl, hL, by omega, fun i h h' => ⟨hr i h h', (hb _ (List.getElem_mem h)).rw (by omega) (by decide)⟩, fun i hi => (bd_all hb i (by omega)).rw (by omega) (Nat.lt_of_le_of_lt (p6 (by omega)) (by decide)), fun p H3 s3 f3 => q p H3 _ (sH.trans (Sx.of s3)) (dH.same s3) f3 ?_⟩
        rw [hnn]
        exact (bd_all hb n (by omega)).mono (Nat.le_trans (p6 hn) (by decide))
    · -- a power of a line, times
      refine ⟨_, rfl, d, 3, rfl, d1, by decide, by decide, fun p H2 u v s2 d2 hp hu hv => ⟨p, u, v, rfl, hp, fun p2 n2 => gen_upd H2 p2 _ n2 fun H3 s3 f3 => ⟨_, rfl, _, rfl, _, _, rfl, rfl, ?_⟩⟩⟩
      have d3 := d2.same s3
      refine ⟨d, _, rfl, d3, by omega, lg (n + 1) (by omega), fun k H4 hk s4 d4 => ⟨_, _, rfl, ?_⟩⟩
      have hk' : k ≤ n := by have : (k : Int) < (n : Int) + 1 := hk; omega
      have f4 := s4 _ _ (dc_ne d3 f3) f3
      have bl : Bd [v, 0 - u] 1 6 := bd_line hu hv
      refine ⟨_, rfl, _, rfl, p2, _, k, rfl, f4, bl.ne, by show 2 ≤ 100; decide, fun x hx => (bl.rw (by decide) (Nat.lt_of_lt_of_le (show 6 < 2 ^ 4 by decide) (Nat.pow_le_pow_right (by decide) (by decide)))).sm x hx, fun i hi => ?_, by omega, fun p5 H5 s5 f5 => ?_⟩
      · have := (bd_pow bl i).rw (by omega) (Nat.lt_of_le_of_lt (p6 (by omega)) (by decide))
        exact ⟨this.ne, this.len, this.sm⟩
      · have d5 := d4.same s5
        refine ⟨_, rfl, _, rfl, _, rfl, _, _, rfl, rfl, d, n - k, 4, by show [V.ref d, V.int ((n : Int) - (k : Int)), V.int 4] = [V.ref d, V.int ((n - k : Nat) : Int), V.int 4]; rw [Int.ofNat_sub hk'], d5, by omega, by decide, fun p6' H6 l6 s6 d6 f6 hl6 hm6 => ?_⟩
        have f5' := s6 _ _ (dc_ne d5 f5) f5
        have b1 := bd_pow bl k
        have b2 := bd_small hl6 hm6
        have r1 := b1.rw (by omega) (Nat.lt_of_le_of_lt (p6 (by omega)) (by decide))
        have r2 := b2.rw (by omega) (Nat.lt_of_le_of_lt (show (n - k + 1) * 4 ≤ 36 by omega) (by decide))
        refine ⟨p5, p6', _, l6, rfl, f5', f6, r1.ne, r2.ne, r1.len, r2.len, r1.sm, r2.sm, fun p7 H7 s7 _ f7 => q p7 H7 _ ((((s1.trans s2).trans (Sx.of s3)).trans s4).trans (((Sx.of s5).trans s6).trans (Sx.of s7))) (d6.same s7) f7 ?_⟩
        have b3 := bd_ml b1 b2
        rw [show k + (n - k) = n by omega] at b3
        exact b3.mono (Nat.le_trans (Nat.mul_le_mul (p6 (by omega)) (show (n - k + 1) * 4 ≤ 36 by omega)) (by decide))
    · -- sums of powers
      refine ⟨_, rfl, _, _, rfl, rfl, _, rfl, by show -(2 ^ 62) ≤ (n : Int) + 1; omega, by show (n : Int) + 1 < 2 ^ 62; omega, fun D hD => lc_range (n := ((n : Int) + 1).toNat) (fun j H' => H' = upd H1 D (.lst (tab j fun _ => 0))) rfl (fun j H' hj hP => ?_) (fun H' hP => ?_)⟩
      · subst hP
        refine ⟨rfl, ⟨_, upd_same, by rw [tab_len]; exact small1000 (by omega), ?_⟩⟩
        rw [upd_upd, ← tab_snoc]
      · subst hP
        rw [show ((n : Int) + 1).toNat = n + 1 by omega, tab_tb]
        refine .inl ⟨D, _, rfl, SqL.of upd_same, fun p hp => gen_upd (upd H1 D _) p _ hp fun H2 s2 f2 => ?_⟩
        have s02 := (same_upd0 (o := HO.lst ((tb (n + 1) fun _ => 0).map V.int)) hD).trans s2
        have d2 := d1.same s02
        have b0 : Bd (tb (n + 1) fun _ => 0) n 0 := ⟨tb_len _ _, by
          rw [nm_tb]
          have : ∀ k, sN k (fun _ => 0) = 0 := by
            intro k
            induction k with
            | zero => rfl
            | succ k ih => show sN k (fun _ => 0) + 0 = 0; rw [ih]
          rw [this]
          exact Nat.le_refl _⟩
        refine ⟨_, rfl, d, 3, rfl, d2, by decide, lg 3 (by decide), fun k H3 hk s3 d3 => ⟨_, _, rfl, rfl, _, rfl, by omega, by omega, ?_⟩⟩
        have f3 := s3 _ _ (dc_ne d2 f2) f2
        have hk3 : (k : Int) < 3 := hk
        refine for_range (n := (1 + (k : Int)).toNat) (fun i σ H' => ∃ r y3 y4 y5 y7 l, σ = [some (.ref d), some (.int n), some (.int (r : Int)), y3, y4, y5, some (.ref y7), none] ∧ Sx d H1 H' ∧ Dc H' d ∧ H' y7 = some (tp l) ∧ Bd l n (i * 6718464)) ⟨_, _, _, _, _, _, rfl, (Sx.of s02).trans s3, d3, f3, b0.mono (Nat.zero_le _)⟩ (fun i σ H' hi hP => ?_) (fun σ H' hP => ?_)
        · obtain ⟨r', y3, y4, y5, y7, l, rfl, sH, dH, hl, bl⟩ := hP
          refine ⟨_, rfl, _, rfl, d, 3, rfl, dH, by decide, by decide, fun p4 H4 u v s4 d4 h4 hu hv => ⟨_, rfl, ?_⟩⟩
          have bp : Bd [u, v] 1 6 := bd_pair hu hv
          refine ⟨p4, _, n, rfl, h4, bp.ne, by show 2 ≤ 100; decide, fun x hx => (bp.rw (by decide) (Nat.lt_of_lt_of_le (show 6 < 2 ^ 4 by decide) (Nat.pow_le_pow_right (by decide) (by decide)))).sm x hx, fun i hi => ?_, by omega, fun p5 H5 s5 f5 => ?_⟩
          · have := (bd_pow bp i).rw (by omega) (Nat.lt_of_le_of_lt (p6 (by omega)) (by decide))
            exact ⟨this.ne, this.len, this.sm⟩
          · have d5 := d4.same s5
            have b5 := bd_pow bp n
            have r5 := b5.rw (by omega) (Nat.lt_of_le_of_lt (p6 (by omega)) (by decide))
            refine ⟨_, rfl, d, 4, rfl, d5, by decide, by rw [e15]; decide, fun c H6 c1 c2 s6 d6 => ?_⟩
            have f6 := s6 _ _ (dc_ne d5 f5) f5
            refine ⟨p5, _, c, rfl, f6, r5.len, r5.sm, Nat.lt_of_le_of_lt (show c.natAbs ≤ 4 by omega) (by decide), fun p7 H7 s7 _ f7 => ?_⟩
            have b7 := bd_scale (d := 4) b5 (show c.natAbs ≤ 4 by omega)
            have hl7 := s7 _ _ (s6 _ _ (dc_ne d5 (s5 _ _ (s4 _ _ (dc_ne dH hl) hl))) (s5 _ _ (s4 _ _ (dc_ne dH hl) hl)))
            refine ⟨_, p7, l, _, rfl, hl7, f7, by rw [bl.len, b7.len], by rw [bl.len]; omega, fun p8 H8 s8 _ f8 => ⟨_, _, _, _, p8, _, rfl, ((sH.trans s4).trans ((Sx.of s5).trans s6)).trans ((Sx.of s7).trans (Sx.of s8)), (d6.same s7).same s8, f8, (bd_zs bl b7).mono ?_⟩⟩
            have : 4 * 6 ^ n ≤ 4 * 1679616 := Nat.mul_le_mul (Nat.le_refl _) (p6 hn)
            rw [Nat.succ_mul]
            omega
        · obtain ⟨r', y3, y4, y5, y7, l, rfl, sH, dH, hl, bl⟩ := hP
          exact ⟨_, rfl, q y7 H' l (s1.trans sH) dH hl (bl.mono (by omega))⟩
    · -- some entries, some zeros
      refine ⟨_, rfl, _, _, rfl, rfl, _, rfl, by show -(2 ^ 62) ≤ (n : Int) + 1; omega, by show (n : Int) + 1 < 2 ^ 62; omega, fun D hD => lc_range (n := ((n : Int) + 1).toNat) (fun j H' => Sx d H1 H' ∧ Dc H' d ∧ ∃ l : List Int, H' D = some (.lst (l.map V.int)) ∧ l.length = j ∧ ∀ x ∈ l, x.natAbs ≤ 3) ⟨Sx.of (same_upd0 hD), d1.same (same_upd0 hD), [], upd_same, rfl, fun x hx => by cases hx⟩ (fun j H' hj hP => ?_) (fun H' hP => ?_)⟩
      · obtain ⟨sH, dH, l, hL, hl, hb⟩ := hP
        have nD : D ≠ d := d1.ne hD
        refine ⟨rfl, _, rfl, d, 3, rfl, dH, by decide, by rw [e15]; decide, fun c H2 c1 c2 s2 d2 => ⟨_, rfl, d, 2, rfl, d2, by decide, lg 2 (by decide), fun k H3 hk s3 d3 => ⟨_, _, rfl, rfl, sm_mul (Nat.lt_of_le_of_lt (show c.natAbs ≤ 3 by omega) (by decide)) (Nat.lt_of_le_of_lt (show ((k : Nat) : Int).natAbs ≤ 2 by have : (k : Int) < 2 := hk; omega) (by decide)), _, s3 D _ nD (s2 D _ nD hL), ?_, fun b o hb2 e => ?_, ?_, l ++ [c * (k : Int)], ?_, ?_, fun x hx => ?_⟩⟩⟩
        · rw [List.length_map]
          exact small1000 (by omega)
        · rw [upd_ne (ne_of_none e hD)]
          exact (sH.trans (s2.trans s3)) b o hb2 e
        · obtain ⟨x, y, z, e⟩ := d3
          exact ⟨x, y, z, by rw [upd_ne (Ne.symm nD)]; exact e⟩
        · rw [upd_same, List.map_append]
          rfl
        · rw [List.length_append, hl]
          rfl
        · rcases List.mem_append.mp hx with e | e
          · exact hb x e
          · rw [List.mem_singleton.mp e]
            have hk2 : (k : Int) < 2 := hk
            rw [Int.natAbs_mul]
            have := Nat.mul_le_mul (show c.natAbs ≤ 3 by omega) (show ((k : Nat) : Int).natAbs ≤ 1 by omega)
            omega
      · obtain ⟨sH, dH, l, hL, hl, hb⟩ := hP
        refine .inl ⟨D, _, rfl, SqL.of hL, fun p hp2 => ?_⟩
        exact q p _ l (s1.trans (sH.trans (Sx.of (same_upd0 hp2)))) (dH.same (same_upd0 hp2)) upd_same ((bd_small (n := n) (by omega) hb).mono (Nat.le_trans (Nat.mul_le_mul (show n + 1 ≤ 9 by omega) (Nat.le_refl _)) (by decide)))
    · -- great entries, or small ones
      have small : ∀ H2, Sx d H H2 → Dc H2 d → spSmall [V.ref d, V.int (n : Int), V.int 6] H2 Q E0 := fun H2 s2 d2 => ⟨d, n, 6, rfl, d2, by omega, by decide, fun p H3 l s3 d3 f3 hl hm => q p H3 l (s2.trans s3) d3 f3 ((bd_small hl hm).mono (by omega))⟩
      refine ⟨_, rfl, rfl, _, rfl, iteI (fun _ => ?_) (fun _ => ?_)⟩
      · refine ⟨_, rfl, d, 4, rfl, d1, by decide, lg 4 (by decide), fun k H2 hk s2 d2 => ⟨rfl, _, rfl, iteI (fun _ => ?_) (fun _ => ?_)⟩⟩
        · -- great entries
          refine ⟨_, rfl, _, _, rfl, rfl, _, rfl, by show -(2 ^ 62) ≤ (n : Int) + 1; omega, by show (n : Int) + 1 < 2 ^ 62; omega, fun D hD => lc_range (n := ((n : Int) + 1).toNat) (fun j H' => Sx d H2 H' ∧ Dc H' d ∧ ∃ l : List Int, H' D = some (.lst (l.map V.int)) ∧ l.length = j ∧ ∀ x ∈ l, x.natAbs ≤ 1000000000000) ⟨Sx.of (same_upd0 hD), d2.same (same_upd0 hD), [], upd_same, rfl, fun x hx => by cases hx⟩ (fun j H' hj hP => ?_) (fun H' hP => ?_)⟩
          · obtain ⟨sH, dH, l, hL, hl, hb⟩ := hP
            have nD : D ≠ d := d2.ne hD
            refine ⟨rfl, _, rfl, 10, 12, rfl, rfl, ⟨by decide, by decide, by decide⟩, d, 1000000000000, rfl, dH, by decide, by rw [e15]; decide, fun r H2 r1 r2 s2 d2 => ⟨_, s2 D _ nD hL, ?_, fun b o hb2 e => ?_, ?_, l ++ [r], ?_, ?_, fun x hx => ?_⟩⟩
            · rw [List.length_map]
              exact small1000 (by omega)
            · rw [upd_ne (ne_of_none e hD)]
              exact (sH.trans s2) b o hb2 e
            · obtain ⟨x, y, z, e⟩ := d2
              exact ⟨x, y, z, by rw [upd_ne (Ne.symm nD)]; exact e⟩
            · rw [upd_same, List.map_append]
              rfl
            · rw [List.length_append, hl]
              rfl
            · rcases List.mem_append.mp hx with e | e
              · exact hb x e
              · rw [List.mem_singleton.mp e]
                omega
          · obtain ⟨sH, dH, l, hL, hl, hb⟩ := hP
            refine .inl ⟨D, _, rfl, SqL.of hL, fun p hp2 => ?_⟩
            exact q p _ l ((s1.trans s2).trans (sH.trans (Sx.of (same_upd0 hp2)))) (dH.same (same_upd0 hp2)) upd_same ((bd_small (n := n) (by omega) hb).mono (Nat.le_trans (Nat.mul_le_mul (show n + 1 ≤ 9 by omega) (Nat.le_refl _)) (by decide)))
        · exact ⟨_, rfl, _, rfl, small H2 (s1.trans s2) d2⟩
      · exact ⟨_, rfl, _, rfl, small H1 s1 d1⟩
end
end K49

set_option Elab.async false
set_option linter.all false
set_option maxRecDepth 100000
set_option maxHeartbeats 4000000
namespace K49
open PySem PySem.Spec PyProof.Rows L2 StX RZ MyR SlX OwnR OwnF EnumT
/-! what is said of forms by those who use them (for other laws: K49u, K49v, K49y hold the same) -/
section
variable {P : Program} {w : World} {K : PySem.W.Frag} {mg : Str → Option Value} {base : Heap}
def spLaw (K : PySem.W.Frag) : Sp := fun vs H Q _ => ∃ (a : Addr) (ns : List Int), vs = [.ref a] ∧ SqL K H a (ns.map V.int) ∧ ns.length ≤ 63 ∧ ∀ H', Q (.bl true) H'
/-- what is asked of a told row -/
structure Tr (l : List Int) : Prop where
  ne : l ≠ []
  len : l.length ≤ 40
  sho : ∀ x ∈ l, Sho x
theorem Tr.rw {l : List Int} (h : Tr l) : Rw l := ⟨h.ne, by have := h.len; omega, fun x hx => Nat.lt_trans (h.sho x hx) (by decide)⟩
theorem Tr.pos {l : List Int} (h : Tr l) : 1 ≤ l.length := List.length_pos_iff.mpr h.ne
theorem shaped_lints (ns : List Int) : SeqAt.shaped (.list (ns.map PyData.int)) = true := by
  unfold SeqAt.shaped
  rw [show PyData.canLay0 (.list (ns.map PyData.int)) = PyData.canLayAll0 (ns.map PyData.int) from rfl, lay_ints]
  rw [show PyData.depth (.list (ns.map PyData.int)) = PyData.depthAll (ns.map PyData.int) + 1 from rfl, depth_ints]
  rfl
theorem notFirst_self {K : PySem.W.Frag} {C : Addr} : PySem.W.notFirst K C (.ref C) = true := by
  unfold PySem.W.notFirst
  rw [beq_self_eq_true]
  rfl
theorem join_form (l : List Int) : Str.empty ++ Str.ofString "form " ++ Txt.join (Str.ofString " ") (ntx l) = Txt.join (Str.ofString " ") (Str.ofString "form" :: ntx l) ∨ l = [] := by
  cases l with
  | nil => exact .inr rfl
  | cons x xs =>
    refine .inl ?_
    rw [TL.join_eq, TL.join_eq]
    show Str.empty ++ Str.ofString "form " ++ Str.join (Str.ofString " ") (ntx (x :: xs)) = Str.ofString "form" ++ Str.ofString " " ++ Str.join (Str.ofString " ") (ntx (x :: xs))
    rw [Str.empty_append]
    congr 1
/-- Form(t) -/
theorem made_form {C x dx t : Addr} {l : List Int} {H0 H2 : Hp} (hx : H0 x = none) (hdx : H0 dx = none) (hne : dx ≠ x) (s : Same (upd (upd H0 dx (.own x)) x (.ins C dx [])) H2) (ht : H0 t = some (tp l)) : Same H0 (slH H2 x C dx [some (.ref t)]) ∧ Fo C (slH H2 x C dx [some (.ref t)]) x l := by
  have s3 := made (v := .ref t) hx hdx hne s
  refine ⟨s3, dx, t, upd_same, ?_, s3 _ _ ht⟩
  unfold slH
  rw [upd_ne hne, upd_same]
theorem Fo.sx {C a d : Addr} {H H' : Hp} {ns : List Int} (h : Fo C H a ns) (hd : Dc H d) (s : Sx d H H') : Fo C H' a ns := by
  obtain ⟨dx, t, h1, h2, h3⟩ := h
  obtain ⟨x, y, z, e⟩ := hd
  refine ⟨dx, t, s _ _ (fun q => ?_) h1, s _ _ (fun q => ?_) h2, s _ _ (fun q => ?_) h3⟩
  · rw [q, e] at h1
    cases h1
  · rw [q, e] at h2
    cases h2
  · rw [q, e] at h3
    cases h3
/-- a drawn integer, of any size up to fifty digits -/
def spNearB : Sp := fun vs H Q _ => ∃ (a : Addr) (m : Int), vs = [.ref a, .int m] ∧ Dc H a ∧ 0 ≤ m ∧ m ≤ 100000000000000000000 ∧ ∀ r H', -m ≤ r → r ≤ m → Sx a H H' → Dc H' a → Q (.int r) H'
theorem ok_law_nearB (T : Facts K mg) : FnOk P w K mg base CX0 2 T.f_law_near T.fd_law_near ["_law_dice_here", "_law_most"] spNearB := by
  have G_law_roll : FnOk P w K mg base CX0 1 T.f_law_roll T.fd_law_roll ["_law_dice_here", "_law_total"] spRoll2 := (ok_law_roll T).imp roll2
  refine T.F_law_near.ok sc_law_near (fun vs H Q E h => ?_) (fun cdv A outer s H vs Q E hr h => ?_)
  · obtain ⟨a, m, rfl, _⟩ := h
    rfl
  · obtain ⟨a, m, rfl, hd, h0, h1, q⟩ := h
    refine ⟨_, (PSs.nox (pss_one (ps_ret (pe_op op_sub (pe_call G_law_roll hr (by rfl) T.g_law_roll T.F_law_roll.kp T.b_law_roll .nil pass0 (pa_cons (pv 0) (pa_cons (pe_op op_add (pe_op op_mul pe_int (pv 1)) pe_int) pa_nil))) (pv 1))))), ?_⟩
    refine ⟨_, rfl, _, rfl, _, _, rfl, rfl, .inl ⟨by decide, by decide⟩, _, _, rfl, rfl, a, _, rfl, hd, (by show 0 < 2 * m + 1; omega), ?_, fun r H' hr s d => ⟨_, rfl, _, _, rfl, rfl, ?_⟩⟩
    · refine Nat.lt_trans (PySem.Flt.log2_lt_of (k := 80) (by decide) ?_) (by decide)
      show (2 * m + 1).natAbs < 2 ^ 80
      omega
    · have hr' : (r : Int) < 2 * m + 1 := hr
      exact q _ H' (by omega) (by omega) s d
theorem mkF {CT C x dx t : Addr} {H : Hp} {l : List Int} {R : Hp → Prop} (hx : H x = none) (hdx : H dx = none) (hne : dx ≠ x) (ht : H t = some (tp l)) (h1 : 1 ≤ l.length) (h2 : l.length ≤ 41) (hs : ∀ z ∈ l, Sho z) (q : ∀ H', Same H H' → Fo C H' x l → R H') :
    spForm CT C [.ref x, .ref t] (upd (upd H dx (.own x)) x (.ins C dx [])) (fun v H2 => v = .non ∧ R H2) E0 := by
  refine ⟨x, dx, t, t, rfl, .inl ⟨upd_same, rfl⟩, .inr ⟨l, rfl, ?_, h1, h2, hs⟩, fun H2 s2 => ⟨rfl, ?_⟩⟩
  · rw [upd_ne (ne_of_none ht hx), upd_ne (ne_of_none ht hdx)]
    exact ht
  · obtain ⟨s, f⟩ := made_form hx hdx hne s2 ht
    exact q _ s f
theorem Bd.tr {l : List Int} {n b : Nat} (h : Bd l n b) (hn : n ≤ 39) (hb : b < 10 ^ 60) : Tr l := ⟨h.ne, by rw [h.len]; omega, fun x hx => Nat.lt_of_le_of_lt (h.mem x hx) hb⟩
/-- a pair of a form and its row -/
structure Pa (C : Addr) (H : Hp) (v : V) (l : List Int) : Prop where
  tr : Tr l
  at_ : ∃ p f t, v = .ref p ∧ H p = some (.tup [.ref f, .ref t]) ∧ Fo C H f l ∧ H t = some (tp l)
theorem Pa.same {C : Addr} {H H' : Hp} {v : V} {l : List Int} (h : Pa C H v l) (s : Same H H') : Pa C H' v l := by
  obtain ⟨p, f, t, e, h1, h2, h3⟩ := h.at_
  exact ⟨h.tr, p, f, t, e, s _ _ h1, h2.same s, s _ _ h3⟩
theorem ml_one (l : List Int) : ml l [1] = l := by
  refine co_inj (by rw [ml_len]; show l.length + 1 - 1 = _; omega) fun k => ?_
  rw [co_ml (by simp), cv_congr (h := fun i => if i = 0 then 1 else 0) l k fun i _ => by cases i <;> rfl, cv_one]
theorem prop_ent {C a : Addr} {H : Hp} {xs : List Int} {Q : VK} (fa : Fo C H a xs) (q : ∀ t, H t = some (tp xs) → Q (.ref t) H) : ∃ a' dx vs, V.ref a = .ref a' ∧ Slt H a' C dx vs ∧ spEnt C [.ref a'] H Q E0 := by
  obtain ⟨dx, t, ha, _⟩ := fa.slt
  exact ⟨a, dx, _, rfl, ha, a, xs, rfl, fa, q⟩
theorem prop_deg {C a : Addr} {H : Hp} {xs : List Int} {Q : VK} (fa : Fo C H a xs) (q : Q (.int ((xs.length : Int) - 1)) H) : ∃ a' dx vs, V.ref a = .ref a' ∧ Slt H a' C dx vs ∧ spDeg C [.ref a'] H Q E0 := by
  obtain ⟨dx, t, ha, _⟩ := fa.slt
  exact ⟨a, dx, _, rfl, ha, a, xs, rfl, fa, q⟩
/-- Form(t), t a written row -/
theorem mkB {CT C x dx t : Addr} {H : Hp} {l : List Int} {n b : Nat} {R : Hp → Prop} (hx : H x = none) (hdx : H dx = none) (hne : dx ≠ x) (ht : H t = some (tp l)) (bd : Bd l n b) (hn : n ≤ 39) (hb : b < 10 ^ 60) (q : ∀ H', Same H H' → Fo C H' x l → R H') :
    spForm CT C [.ref x, .ref t] (upd (upd H dx (.own x)) x (.ins C dx [])) (fun v H2 => v = .non ∧ R H2) E0 :=
  mkF hx hdx hne ht (bd.tr hn hb).pos (by have := (bd.tr hn hb).len; omega) (bd.tr hn hb).sho q
end
end K49

set_option Elab.async false
set_option linter.all false
set_option maxRecDepth 100000
/-! values of forms; a form is told by its values -/
namespace K49
/-- the value at x, y of the first n entries -/
def evF : Nat → (Nat → Int) → Int → Int → Int
  | 0, _, _, _ => 0
  | n + 1, g, x, y => x * evF n g x y + g n * y ^ n
def ev (l : List Int) (x y : Int) : Int := evF l.length (co l) x y
theorem evF_congr {g h : Nat → Int} {x y : Int} : ∀ n, (∀ i, i < n → g i = h i) → evF n g x y = evF n h x y
  | 0, _ => rfl
  | n + 1, e => by
    show x * evF n g x y + g n * y ^ n = x * evF n h x y + h n * y ^ n
    rw [evF_congr n fun i hi => e i (by omega), e n (by omega)]
theorem evF_add (g h : Nat → Int) (x y : Int) : ∀ n, evF n (fun i => g i + h i) x y = evF n g x y + evF n h x y
  | 0 => rfl
  | n + 1 => by
    show x * evF n (fun i => g i + h i) x y + (g n + h n) * y ^ n = (x * evF n g x y + g n * y ^ n) + (x * evF n h x y + h n * y ^ n)
    rw [evF_add g h x y n, Int.mul_add, Int.add_mul]
    omega
theorem evF_mul (c : Int) (g : Nat → Int) (x y : Int) : ∀ n, evF n (fun i => c * g i) x y = c * evF n g x y
  | 0 => by show (0 : Int) = c * 0; rw [Int.mul_zero]
  | n + 1 => by
    show x * evF n (fun i => c * g i) x y + (c * g n) * y ^ n = c * (x * evF n g x y + g n * y ^ n)
    rw [evF_mul c g x y n, Int.mul_add, Int.mul_assoc, ← Int.mul_assoc x c, Int.mul_comm x c, Int.mul_assoc]
theorem evF_sh (g : Nat → Int) (x y : Int) : ∀ n, evF (n + 1) (sh g) x y = y * evF n g x y
  | 0 => by
    show x * 0 + (0 : Int) * y ^ 0 = y * 0
    rw [Int.mul_zero, Int.zero_mul, Int.mul_zero]
    rfl
  | n + 1 => by
    show x * evF (n + 1) (sh g) x y + g n * y ^ (n + 1) = y * (x * evF n g x y + g n * y ^ n)
    rw [evF_sh g x y n, Int.mul_add, Int.pow_succ, ← Int.mul_assoc, Int.mul_comm x y, Int.mul_assoc, Int.mul_comm (y ^ n) y, ← Int.mul_assoc (g n), Int.mul_comm (g n) y, Int.mul_assoc y (g n)]
theorem evF_far {g : Nat → Int} (x y : Int) {n : Nat} (h : ∀ i, n ≤ i → g i = 0) : ∀ k, evF (n + k) g x y = x ^ k * evF n g x y
  | 0 => by rw [Nat.add_zero, Int.pow_zero, Int.one_mul]
  | k + 1 => by
    show x * evF (n + k) g x y + g (n + k) * y ^ (n + k) = _
    rw [evF_far x y h k, h _ (by omega), Int.zero_mul, Int.add_zero, Int.pow_succ, ← Int.mul_assoc, Int.mul_comm x]
theorem evF_zero (x y : Int) : ∀ n, evF n (fun _ => 0) x y = 0
  | 0 => rfl
  | n + 1 => by
    show x * evF n (fun _ => 0) x y + 0 * y ^ n = 0
    rw [evF_zero x y n, Int.mul_zero, Int.zero_mul]
    rfl
theorem ev_ml : ∀ {l m : List Int}, l ≠ [] → m ≠ [] → ∀ x y, ev (ml l m) x y = ev l x y * ev m x y := by
  intro l
  induction l with
  | nil => intro m h; exact absurd rfl h
  | cons a l ih =>
    intro m hl hm x y
    have hM : 0 < m.length := List.length_pos_iff.mpr hm
    have e0 : ev (ml (a :: l) m) x y = evF (l.length + m.length) (cv (a :: l) (co m)) x y := by
      unfold ev
      rw [ml_len, show (a :: l).length + m.length - 1 = l.length + m.length by rw [List.length_cons]; omega]
      exact evF_congr _ fun i _ => co_ml hm i
    rw [e0]
    have e1 : evF (l.length + m.length) (cv (a :: l) (co m)) x y = a * evF (l.length + m.length) (co m) x y + evF (l.length + m.length) (sh (cv l (co m))) x y := by
      rw [← evF_mul, ← evF_add]
      exact evF_congr _ fun i _ => cv_cons a l (co m) i
    rw [e1, show l.length + m.length = m.length + l.length by omega, evF_far x y (fun i hi => co_far hi) l.length]
    have e2 : ev (a :: l) x y = a * x ^ l.length + y * evF l.length (co l) x y := by
      unfold ev
      rw [List.length_cons]
      rw [show evF (l.length + 1) (co (a :: l)) x y = evF (l.length + 1) (fun i => a * (if i = 0 then 1 else 0) + sh (co l) i) x y from evF_congr _ fun i _ => by
        rw [co_cons]
        by_cases h : i = 0
        · rw [if_pos h, if_pos h, Int.mul_one]
        · rw [if_neg h, if_neg h, Int.mul_zero], evF_add, evF_mul, evF_sh]
      congr 1
      congr 1
      have h1 : evF (1 + l.length) (fun i => if i = 0 then (1 : Int) else 0) x y = x ^ l.length * evF 1 (fun i => if i = 0 then (1 : Int) else 0) x y := evF_far x y (n := 1) (fun i hi => if_neg (by omega)) l.length
      rw [show l.length + 1 = 1 + l.length by omega, h1]
      show x ^ l.length * (x * 0 + (if 0 = 0 then 1 else 0) * y ^ 0) = _
      rw [if_pos rfl, Int.mul_zero, Int.pow_zero, Int.mul_one, Int.zero_add, Int.mul_one]
    rw [e2]
    by_cases c : l = []
    · subst c
      show a * (x ^ 0 * evF m.length (co m) x y) + evF (m.length + 0) (sh (cv [] (co m))) x y = (a * x ^ 0 + y * 0) * ev m x y
      rw [show evF (m.length + 0) (sh (cv [] (co m))) x y = evF m.length (fun _ => 0) x y from evF_congr _ fun i _ => by cases i <;> rfl, evF_zero, Int.pow_zero, Int.one_mul, Int.mul_one, Int.mul_zero, Int.add_zero, Int.add_zero]
      rfl
    · have hL : 0 < l.length := List.length_pos_iff.mpr c
      have e3 : evF (m.length + l.length) (sh (cv l (co m))) x y = y * (ev l x y * ev m x y) := by
        rw [show m.length + l.length = (l.length + m.length - 1) + 1 by omega, evF_sh, ← ih c hm x y]
        congr 1
        unfold ev
        rw [ml_len]
        exact evF_congr _ fun i _ => (co_ml hm i).symm
      rw [e3]
      show a * (x ^ l.length * ev m x y) + y * (ev l x y * ev m x y) = (a * x ^ l.length + y * ev l x y) * ev m x y
      rw [Int.add_mul, Int.mul_assoc, Int.mul_assoc]
theorem ev_cons (a : Int) (l : List Int) (x y : Int) : ev (a :: l) x y = a * x ^ l.length + y * ev l x y := by
  unfold ev
  rw [List.length_cons]
  rw [show evF (l.length + 1) (co (a :: l)) x y = evF (l.length + 1) (fun i => a * (if i = 0 then 1 else 0) + sh (co l) i) x y from evF_congr _ fun i _ => by
    rw [co_cons]
    by_cases h : i = 0
    · rw [if_pos h, if_pos h, Int.mul_one]
    · rw [if_neg h, if_neg h, Int.mul_zero], evF_add, evF_mul, evF_sh]
  congr 1
  congr 1
  have h1 : evF (1 + l.length) (fun i => if i = 0 then (1 : Int) else 0) x y = x ^ l.length * evF 1 (fun i => if i = 0 then (1 : Int) else 0) x y := evF_far x y (n := 1) (fun i hi => if_neg (by omega)) l.length
  rw [show l.length + 1 = 1 + l.length by omega, h1]
  show x ^ l.length * (x * 0 + (if 0 = 0 then 1 else 0) * y ^ 0) = _
  rw [if_pos rfl, Int.mul_zero, Int.pow_zero, Int.mul_one, Int.zero_add, Int.mul_one]
/-- only the form with zeros has the value 0 everywhere -/
theorem evF_inj {g : Nat → Int} {M : Int} : ∀ n, (∀ i, i < n → (g i).natAbs < M.natAbs) → evF n g M 1 = 0 → ∀ i, i < n → g i = 0
  | 0, _, _, i, hi => absurd hi (Nat.not_lt_zero i)
  | n + 1, hb, e, i, hi => by
    have e' : M * evF n g M 1 + g n * 1 ^ n = 0 := e
    rw [Int.one_pow, Int.mul_one] at e'
    have hd : M ∣ g n := ⟨-evF n g M 1, by rw [Int.mul_neg]; omega⟩
    have hn : g n = 0 := Int.natAbs_eq_zero.mp (Nat.eq_zero_of_dvd_of_lt (Int.natAbs_dvd_natAbs.mpr hd) (hb n (by omega)))
    have hM : M ≠ 0 := fun z => by
      have := hb n (by omega)
      rw [z] at this
      exact absurd this (by simp)
    rw [hn, Int.add_zero] at e'
    have e2 : evF n g M 1 = 0 := (Int.mul_eq_zero.mp e').resolve_left hM
    by_cases c : i = n
    · rw [c]; exact hn
    · exact evF_inj n (fun j hj => hb j (by omega)) e2 i (by omega)
theorem ev_inj {l m : List Int} (hl : l.length = m.length) (h : ∀ x y, ev l x y = ev m x y) : l = m := by
  refine co_inj hl fun i => ?_
  by_cases c : i < l.length
  · have key := evF_inj (g := fun i => co l i + -1 * co m i) (M := ((nm l + nm m + 1 : Nat) : Int)) l.length (fun i _ => by
      rw [Int.natAbs_natCast]
      have h1 : (co l i).natAbs ≤ nm l := by
        rcases co_mem (l := l) (k := i) with e | e
        · rw [e]; exact Nat.zero_le _
        · exact nm_mem e
      have h2 : (co m i).natAbs ≤ nm m := by
        rcases co_mem (l := m) (k := i) with e | e
        · rw [e]; exact Nat.zero_le _
        · exact nm_mem e
      show (co l i + -1 * co m i).natAbs < _
      omega) (by
      rw [evF_add, evF_mul]
      have := h ((nm l + nm m + 1 : Nat) : Int) 1
      unfold ev at this
      rw [← hl] at this
      rw [this]
      omega) i c
    have key' : co l i + -1 * co m i = 0 := key
    omega
  · rw [co_far (by omega), co_far (by omega)]
end K49

set_option Elab.async false
set_option linter.all false
set_option maxRecDepth 100000
/-! changed forms, derived forms: the plain law -/
namespace K49
theorem ev_zs (c : Int) {l m : List Int} (h : l.length = m.length) (x y : Int) : ev (zs c l m) x y = ev l x y + c * ev m x y := by
  have hz : (zs c l m).length = l.length := by unfold zs; rw [List.length_zipWith, h, Nat.min_self]
  have co_zs : ∀ k, co (zs c l m) k = co l k + c * co m k := fun k => by
    unfold zs
    by_cases hk : k < l.length
    · rw [co_get (by rw [List.length_zipWith]; omega), co_get hk, co_get (by omega), List.getElem_zipWith]
    · rw [co_far (by rw [List.length_zipWith]; omega), co_far (by omega), co_far (by omega), Int.mul_zero]
      rfl
  unfold ev
  rw [hz, ← h, ← evF_mul, ← evF_add]
  exact evF_congr _ fun i _ => co_zs i
theorem ev_map (c : Int) (l : List Int) (x y : Int) : ev (l.map (c * ·)) x y = c * ev l x y := by
  unfold ev
  rw [List.length_map, ← evF_mul]
  exact evF_congr _ fun i _ => co_map c l i
theorem ev_one (x y : Int) : ev [1] x y = 1 := by
  rw [ev_cons]
  show 1 * x ^ 0 + y * 0 = 1
  rw [Int.pow_zero, Int.mul_zero]
  rfl
theorem ev_nil (x y : Int) : ev [] x y = 0 := rfl
theorem pow_ne {l : List Int} (h : l ≠ []) : ∀ n, pow l n ≠ []
  | 0 => by show [1] ≠ []; simp
  | n + 1 => ml_ne (pow_ne h n) h
theorem pow_len {l : List Int} (h : l.length = 2) : ∀ n, (pow l n).length = n + 1
  | 0 => rfl
  | n + 1 => by
    show (ml (pow l n) l).length = _
    rw [ml_len, pow_len h n, h]
    omega
theorem ev_pow {l : List Int} (h : l ≠ []) (x y : Int) : ∀ n, ev (pow l n) x y = ev l x y ^ n
  | 0 => by rw [Int.pow_zero]; exact ev_one x y
  | n + 1 => by
    show ev (ml (pow l n) l) x y = _
    rw [ev_ml (pow_ne h n) h, ev_pow h x y n, Int.pow_succ]
theorem zs_len {c : Int} {l m : List Int} (h : l.length = m.length) : (zs c l m).length = l.length := by unfold zs; rw [List.length_zipWith, h, Nat.min_self]
/-- how the program changes: the entries that are left, what is found, the power of the second row -/
def chg (X Y : List Int) : List Int → List Int → List Int → List Int
  | [], f, _ => f
  | e :: r, f, p => chg X Y r (zs e (ml f X) (ml p Y)) (ml p Y)
theorem chg_len {X Y : List Int} (hX : X.length = 2) (hY : Y.length = 2) : ∀ (r f p : List Int), f ≠ [] → f.length = p.length → (chg X Y r f p).length = f.length + r.length
  | [], f, p, _, _ => rfl
  | e :: r, f, p, nf, h => by
    have pf : 0 < f.length := List.length_pos_iff.mpr nf
    have l1 : (ml f X).length = f.length + 1 := by rw [ml_len, hX]; omega
    have l2 : (ml p Y).length = f.length + 1 := by rw [ml_len, hY, ← h]; omega
    have l3 : (zs e (ml f X) (ml p Y)).length = f.length + 1 := by rw [zs_len (by rw [l1, l2]), l1]
    show (chg X Y r (zs e (ml f X) (ml p Y)) (ml p Y)).length = _
    rw [chg_len hX hY r _ _ (fun z => by rw [z] at l3; cases l3) (by rw [l3, l2]), l3, List.length_cons]
    omega
theorem ev_chg {X Y : List Int} (hX : X.length = 2) (hY : Y.length = 2) (x y : Int) : ∀ (r f p : List Int), f ≠ [] → f.length = p.length →
    ev (chg X Y r f p) x y = ev f x y * ev X x y ^ r.length + ev p x y * ev Y x y * ev r (ev X x y) (ev Y x y)
  | [], f, p, _, _ => by
    show ev f x y = ev f x y * ev X x y ^ 0 + ev p x y * ev Y x y * 0
    rw [Int.pow_zero, Int.mul_one, Int.mul_zero, Int.add_zero]
  | e :: r, f, p, nf, h => by
    have pf : 0 < f.length := List.length_pos_iff.mpr nf
    have np : p ≠ [] := fun z => by rw [z] at h; simp at h; exact nf h
    have nX : X ≠ [] := fun z => by rw [z] at hX; cases hX
    have nY : Y ≠ [] := fun z => by rw [z] at hY; cases hY
    have l1 : (ml f X).length = f.length + 1 := by rw [ml_len, hX]; omega
    have l2 : (ml p Y).length = f.length + 1 := by rw [ml_len, hY, ← h]; omega
    have l3 : (zs e (ml f X) (ml p Y)).length = f.length + 1 := by rw [zs_len (by rw [l1, l2]), l1]
    show ev (chg X Y r (zs e (ml f X) (ml p Y)) (ml p Y)) x y = _
    rw [ev_chg hX hY x y r _ _ (fun z => by rw [z] at l3; cases l3) (by rw [l3, l2]), ev_zs e (by rw [l1, l2]), ev_ml nf nX, ev_ml np nY, ev_cons, List.length_cons, Int.pow_succ]
    generalize ev f x y = a
    generalize ev p x y = b
    generalize ev X x y = u
    generalize ev Y x y = v
    generalize ev r u v = w
    generalize u ^ r.length = z
    grind
/-- the changed form -/
def changed (X Y l : List Int) : List Int := chg X Y l.tail [co l 0] [1]
theorem changed_len {X Y l : List Int} (hX : X.length = 2) (hY : Y.length = 2) (h : l ≠ []) : (changed X Y l).length = l.length := by
  match l, h with
  | a :: r, _ =>
    show (chg X Y r [a] [1]).length = _
    rw [chg_len hX hY r [a] [1] (by simp) rfl]
    show 1 + r.length = r.length + 1
    omega
theorem ev_changed {X Y l : List Int} (hX : X.length = 2) (hY : Y.length = 2) (h : l ≠ []) (x y : Int) : ev (changed X Y l) x y = ev l (ev X x y) (ev Y x y) := by
  match l, h with
  | a :: r, _ =>
    show ev (chg X Y r [a] [1]) x y = _
    rw [ev_chg hX hY x y r [a] [1] (by simp) rfl, ev_one, ev_cons a r, Int.one_mul, ev_cons a []]
    show (a * x ^ 0 + y * 0) * _ + _ = _
    rw [Int.pow_zero, Int.mul_one, Int.mul_zero, Int.add_zero]
/-- how the law changes: the first i entries -/
def chL (X Y l : List Int) : Nat → List Int
  | 0 => List.replicate l.length 0
  | i + 1 => zs 1 (chL X Y l i) ((ml (pow X (l.length - 1 - i)) (pow Y i)).map (co l i * ·))
theorem chL_len {X Y l : List Int} (hX : X.length = 2) (hY : Y.length = 2) : ∀ i, i ≤ l.length → (chL X Y l i).length = l.length
  | 0, _ => List.length_replicate
  | i + 1, h => by
    have l1 := chL_len (l := l) hX hY i (by omega)
    have l2 : ((ml (pow X (l.length - 1 - i)) (pow Y i)).map (co l i * ·)).length = l.length := by
      rw [List.length_map, ml_len, pow_len hX, pow_len hY]
      omega
    show (zs 1 (chL X Y l i) _).length = _
    rw [zs_len (by rw [l1, l2]), l1]
theorem ev_rep (n : Nat) (x y : Int) : ev (List.replicate n 0) x y = 0 := by
  unfold ev
  rw [show evF (List.replicate n (0 : Int)).length (co (List.replicate n 0)) x y = evF (List.replicate n (0 : Int)).length (fun _ => 0) x y from evF_congr _ fun i hi => by
    rw [co_get hi, List.getElem_replicate], evF_zero]
theorem ev_chL {X Y l : List Int} (hX : X.length = 2) (hY : Y.length = 2) (x y : Int) : ∀ i, i < l.length → ev (chL X Y l (i + 1)) x y = ev X x y ^ (l.length - 1 - i) * evF (i + 1) (co l) (ev X x y) (ev Y x y)
  | i, h => by
    have nX : X ≠ [] := fun z => by rw [z] at hX; cases hX
    have nY : Y ≠ [] := fun z => by rw [z] at hY; cases hY
    have l1 := chL_len (l := l) hX hY i (by omega)
    have l2 : ((ml (pow X (l.length - 1 - i)) (pow Y i)).map (co l i * ·)).length = l.length := by
      rw [List.length_map, ml_len, pow_len hX, pow_len hY]
      omega
    have ih : ev (chL X Y l i) x y = ev X x y ^ (l.length - 1 - i) * (ev X x y * evF i (co l) (ev X x y) (ev Y x y)) := by
      match i, h with
      | 0, _ =>
        show ev (List.replicate l.length 0) x y = _ * (_ * 0)
        rw [ev_rep, Int.mul_zero, Int.mul_zero]
      | j + 1, h =>
        rw [ev_chL hX hY x y j (by omega), show l.length - 1 - j = (l.length - 1 - (j + 1)) + 1 by omega, Int.pow_succ, Int.mul_assoc]
    show ev (zs 1 (chL X Y l i) _) x y = ev X x y ^ (l.length - 1 - i) * (ev X x y * evF i (co l) (ev X x y) (ev Y x y) + co l i * ev Y x y ^ i)
    rw [ev_zs 1 (by rw [l1, l2]), ev_map, ev_ml (pow_ne nX _) (pow_ne nY _), ev_pow nX, ev_pow nY, ih]
    generalize ev X x y ^ (l.length - 1 - i) = A
    generalize ev Y x y ^ i = B
    generalize ev X x y = u
    generalize evF i (co l) u (ev Y x y) = w
    grind
theorem chL_all {X Y l : List Int} (hX : X.length = 2) (hY : Y.length = 2) (h : l ≠ []) : chL X Y l l.length = changed X Y l := by
  have pl : 0 < l.length := List.length_pos_iff.mpr h
  refine ev_inj (by rw [chL_len hX hY _ (Nat.le_refl _), changed_len hX hY h]) fun x y => ?_
  rw [ev_changed hX hY h]
  have := ev_chL (l := l) hX hY x y (l.length - 1) (by omega)
  rw [show l.length - 1 + 1 = l.length by omega, Nat.sub_self, Int.pow_zero, Int.one_mul] at this
  exact this
theorem ev2 (a b x y : Int) : ev [a, b] x y = a * x + b * y := by
  rw [ev_cons, ev_cons, ev_nil]
  show a * x ^ 1 + y * (b * x ^ 0 + y * 0) = _
  rw [Int.pow_zero, Int.pow_succ, Int.pow_zero]
  grind
theorem changed_changed {a b c d e f g h : Int} {l : List Int} (nl : l ≠ []) :
    changed [e, f] [g, h] (changed [a, b] [c, d] l) = changed [a * e + b * g, a * f + b * h] [c * e + d * g, c * f + d * h] l := by
  have n1 : changed [a, b] [c, d] l ≠ [] := fun z => by
    have := changed_len (X := [a, b]) (Y := [c, d]) rfl rfl nl
    rw [z] at this
    exact nl (List.length_eq_zero_iff.mp this.symm)
  refine ev_inj (by rw [changed_len rfl rfl n1, changed_len rfl rfl nl, changed_len rfl rfl nl]) fun x y => ?_
  rw [ev_changed rfl rfl n1, ev_changed rfl rfl nl, ev_changed rfl rfl nl, ev2, ev2, ev2, ev2, ev2, ev2]
  congr 1 <;> grind
theorem changed_ml {X Y l m : List Int} (hX : X.length = 2) (hY : Y.length = 2) (nl : l ≠ []) (nm' : m ≠ []) : changed X Y (ml l m) = ml (changed X Y l) (changed X Y m) := by
  have n1 : changed X Y l ≠ [] := fun z => by
    have := changed_len hX hY nl
    rw [z] at this
    exact nl (List.length_eq_zero_iff.mp this.symm)
  have n2 : changed X Y m ≠ [] := fun z => by
    have := changed_len hX hY nm'
    rw [z] at this
    exact nm' (List.length_eq_zero_iff.mp this.symm)
  refine ev_inj (by rw [changed_len hX hY (ml_ne nl nm'), ml_len, ml_len, changed_len hX hY nl, changed_len hX hY nm']) fun x y => ?_
  rw [ev_changed hX hY (ml_ne nl nm'), ev_ml nl nm', ev_ml n1 n2, ev_changed hX hY nl, ev_changed hX hY nm']
theorem pow_zero {c : Int} : ∀ {n : Nat}, c ^ n = 0 → c = 0
  | 0, h => by rw [Int.pow_zero] at h; cases h
  | n + 1, h => by
    rw [Int.pow_succ] at h
    rcases Int.mul_eq_zero.mp h with e | e
    · exact pow_zero e
    · exact e
/-! ### values -/
def vf (x y : Int) : List Int → Int → Int → Int
  | [], f, _ => f
  | e :: r, f, p => vf x y r (f * x + e * p) (p * y)
theorem vf_ev (x y : Int) : ∀ (r : List Int) (f p : Int), vf x y r f p = f * x ^ r.length + p * ev r x y
  | [], f, p => by
    show f = f * x ^ 0 + p * 0
    rw [Int.pow_zero, Int.mul_one, Int.mul_zero, Int.add_zero]
  | e :: r, f, p => by
    show vf x y r (f * x + e * p) (p * y) = _
    rw [vf_ev x y r, ev_cons, List.length_cons, Int.pow_succ]
    generalize x ^ r.length = A
    generalize ev r x y = w
    grind
/-! ### derivatives -/
/-- derived by x, by y -/
def dX (l : List Int) : List Int := tb (l.length - 1) fun k => co l k * ((l.length : Int) - 1 - k)
def dY (l : List Int) : List Int := tb (l.length - 1) fun k => co l (k + 1) * ((k : Int) + 1)
theorem co_zs' (c : Int) {l m : List Int} (h : l.length = m.length) (k : Nat) : co (zs c l m) k = co l k + c * co m k := by
  unfold zs
  by_cases hk : k < l.length
  · rw [co_get (by rw [List.length_zipWith]; omega), co_get hk, co_get (by omega), List.getElem_zipWith]
  · rw [co_far (by rw [List.length_zipWith]; omega), co_far (by omega), co_far (by omega), Int.mul_zero]
    rfl
def it (f : List Int → List Int) : Nat → List Int → List Int
  | 0, l => l
  | n + 1, l => f (it f n l)
/-- derived i times by x, j times by y -/
def dd (i j : Nat) (l : List Int) : List Int := it dY j (it dX i l)
end K49

set_option Elab.async false
set_option linter.all false
set_option maxRecDepth 100000
set_option maxHeartbeats 4000000
namespace K49
open PySem PySem.Spec PyProof.Rows L2 StX RZ MyR SlX OwnR OwnF EnumT
section
variable {P : Program} {w : World} {K : PySem.W.Frag} {mg : Str → Option Value} {base : Heap}
theorem ok_product_in (T : Facts K mg) : FnOk P w K mg base CX0 2 T.f_product_in T.fd_product_in ["one", "other"] (spJoin K) := by
  have G_joined_entries : FnOk P w K mg base CX0 1 T.f_joined_entries T.fd_joined_entries ["one", "other"] (spJoin K) := ok_joined_entries T
  refine T.F_product_in.ok sc_product_in (fun vs H Q E h => ?_) (fun cdv A outer s H vs Q E hr h => ?_)
  · obtain ⟨a, b, xs, ys, rfl, _⟩ := h
    rfl
  · obtain ⟨a, b, xs, ys, rfl, h⟩ := h
    refine ⟨_, (PSs.nox (pss_one (ps_ret (pe_call G_joined_entries hr (by rfl) T.g_joined_entries T.F_joined_entries.kp T.b_joined_entries .nil pass0 (pa_cons (pv 0) (pa_cons (pv 1) pa_nil)))))), ?_⟩
    exact ⟨_, rfl, _, rfl, a, b, xs, ys, rfl, h⟩
/-! ### values -/
/-- what is asked of a value's letters -/
structure Vb (l : List Int) (x y : Int) (M : Nat) : Prop where
  x : x.natAbs ≤ M
  y : y.natAbs ≤ M
  one : 1 ≤ M
  big : nm l * M ^ l.length < 2 ^ 4000
  pw : M ^ (l.length + 1) < 2 ^ 4000
/-- what stands after i turns -/
def vfs (x y : Int) (l : List Int) : Nat → Int × Int
  | 0 => (0, 1)
  | i + 1 => ((vfs x y l i).1 * x + co l i * (vfs x y l i).2, (vfs x y l i).2 * y)
theorem vfs_vf (x y : Int) (l : List Int) : ∀ i, i ≤ l.length → vf x y (l.drop i) (vfs x y l i).1 (vfs x y l i).2 = vf x y l 0 1
  | 0, _ => rfl
  | i + 1, h => by
    rw [← vfs_vf x y l i (by omega), show l.drop i = co l i :: l.drop (i + 1) by rw [co_get (by omega)]; exact List.drop_eq_getElem_cons (by omega)]
    rfl
theorem vfs_ev (x y : Int) (l : List Int) : (vfs x y l l.length).1 = ev l x y := by
  have := vfs_vf x y l l.length (Nat.le_refl _)
  rw [List.drop_length, vf_ev x y l 0 1, Int.zero_mul, Int.zero_add, Int.one_mul] at this
  exact this
theorem nm_take (l : List Int) (i : Nat) (h : i < l.length) : nm (l.take (i + 1)) = nm (l.take i) + (co l i).natAbs := by
  rw [take_snoc h, nm_snoc]
theorem nm_take_le (l : List Int) : ∀ i, nm (l.take i) ≤ nm l := fun i => by
  have : nm l = nm (l.take i) + nm (l.drop i) := by
    unfold nm
    rw [← List.sum_append, ← List.map_append, List.take_append_drop]
  omega
theorem vfs_bd {l : List Int} {x y : Int} {M : Nat} (h : Vb l x y M) : ∀ i, i ≤ l.length → (vfs x y l i).1.natAbs ≤ nm (l.take i) * M ^ i ∧ (vfs x y l i).2.natAbs ≤ M ^ i
  | 0, _ => ⟨Nat.zero_le _, Nat.le_refl _⟩
  | i + 1, hi => by
    obtain ⟨h1, h2⟩ := vfs_bd h i (by omega)
    show ((vfs x y l i).1 * x + co l i * (vfs x y l i).2).natAbs ≤ _ ∧ ((vfs x y l i).2 * y).natAbs ≤ _
    constructor
    · rw [nm_take l i (by omega), Nat.add_mul]
      refine Nat.le_trans (Int.natAbs_add_le _ _) ?_
      rw [Int.natAbs_mul, Int.natAbs_mul]
      have e1 := Nat.mul_le_mul h1 h.x
      have e2 := Nat.mul_le_mul (Nat.le_refl (co l i).natAbs) (Nat.le_trans h2 (Nat.pow_le_pow_right h.one (Nat.le_succ i)))
      rw [Nat.mul_assoc, ← Nat.pow_succ] at e1
      exact Nat.add_le_add e1 e2
    · rw [Int.natAbs_mul, Nat.pow_succ]
      exact Nat.mul_le_mul h2 h.y
theorem vfs_sm {l : List Int} {x y : Int} {M : Nat} (h : Vb l x y M) (i : Nat) (hi : i ≤ l.length) : sm (vfs x y l i).1 ∧ sm (vfs x y l i).2 := by
  obtain ⟨h1, h2⟩ := vfs_bd h i hi
  have pm : M ^ i ≤ M ^ l.length := Nat.pow_le_pow_right h.one hi
  have pm2 : M ^ l.length ≤ M ^ (l.length + 1) := Nat.pow_le_pow_right h.one (Nat.le_succ _)
  exact ⟨Nat.lt_of_le_of_lt (Nat.le_trans h1 (Nat.mul_le_mul (nm_take_le l i) pm)) h.big, Nat.lt_of_le_of_lt h2 (Nat.lt_of_le_of_lt (Nat.le_trans pm pm2) h.pw)⟩
theorem Vb.smx {l : List Int} {x y : Int} {M : Nat} (h : Vb l x y M) : sm x ∧ sm y := by
  have pm : M ≤ M ^ (l.length + 1) := by
    rw [Nat.pow_succ]
    exact Nat.le_mul_of_pos_left _ (Nat.pow_pos h.one)
  exact ⟨Nat.lt_of_le_of_lt (Nat.le_trans h.x pm) h.pw, Nat.lt_of_le_of_lt (Nat.le_trans h.y pm) h.pw⟩
def spValue : Sp := fun vs H Q _ => ∃ (t : Addr) (l : List Int) (x y : Int) (M : Nat), vs = [.ref t, .int x, .int y] ∧ H t = some (tp l) ∧ (∀ z ∈ l, sm z) ∧ Vb l x y M ∧ ∀ H', Same H H' → Q (.int (ev l x y)) H'
/-! ### changes -/
/-- a table of two rows of two -/
def Tb (H : Hp) (t : Addr) (X Y : List Int) : Prop := ∃ r0 r1, H t = some (.tup [.ref r0, .ref r1]) ∧ H r0 = some (tp X) ∧ H r1 = some (tp Y)
theorem Tb.same {H H' : Hp} {t : Addr} {X Y : List Int} (h : Tb H t X Y) (s : Same H H') : Tb H' t X Y := by
  obtain ⟨r0, r1, h1, h2, h3⟩ := h
  exact ⟨r0, r1, s _ _ h1, s _ _ h2, s _ _ h3⟩
theorem Tb.sx {H H' : Hp} {t d : Addr} {X Y : List Int} (h : Tb H t X Y) (hd : Dc H d) (s : Sx d H H') : Tb H' t X Y := by
  obtain ⟨r0, r1, h1, h2, h3⟩ := h
  exact ⟨r0, r1, s _ _ (dc_ne hd h1) h1, s _ _ (dc_ne hd h2) h2, s _ _ (dc_ne hd h3) h3⟩
/-- short pairs -/
structure Pr2 (X : List Int) : Prop where
  len : X.length = 2
  sho : ∀ x ∈ X, Sho x
theorem cut_tail (xs : List V) (h : 1 ≤ xs.length) : cutV xs (some 1) none = xs.drop 1 := by
  unfold cutV
  have e1 : HT.sIx xs.length 0 (some 1) = 1 := by
    unfold HT.sIx
    simp only []
    split <;> omega
  have e2 : HT.sIx xs.length xs.length none = xs.length := rfl
  rw [e1, e2]
  exact List.take_of_length_le (by rw [List.length_drop]; omega)
/-- all that is made on the way is let -/
def ChOk (X Y : List Int) : List Int → List Int → List Int → Prop
  | [], _, _ => True
  | e :: r, f, p => Rw f ∧ Rw p ∧ sm e ∧ Rw (ml p Y) ∧ Rw (ml f X) ∧ ChOk X Y r (zs e (ml f X) (ml p Y)) (ml p Y)
def spChanged : Sp := fun vs H Q _ => ∃ (a t : Addr) (l X Y : List Int), vs = [.ref a, .ref t] ∧ H a = some (tp l) ∧ Tb H t X Y ∧ l ≠ [] ∧ l.length ≤ 100 ∧ X.length = 2 ∧ Y.length = 2 ∧ Rw X ∧ Rw Y ∧ ChOk X Y l.tail [co l 0] [1] ∧ ∀ p H', Same H H' → H' p = some (tp (changed X Y l)) → Q (.ref p) H'
theorem ok_changed_in (T : Facts K mg) : FnOk P w K mg base CX0 3 T.f_changed_in T.fd_changed_in ["entries", "table"] spChanged := by
  have G_product_in := ok_product_in (P := P) (w := w) (base := base) T
  refine T.F_changed_in.ok sc_changed_in (fun vs H Q E h => ?_) (fun cdv A outer s H vs Q E hr h => ?_)
  · obtain ⟨a, t, l, X, Y, rfl, _⟩ := h
    rfl
  · obtain ⟨a, t, l, X, Y, rfl, ha, ht, nl, hl, lX, lY, rX, rY, ok, q⟩ := h
    obtain ⟨r0, r1, h1, h2, h3⟩ := ht
    have pl : 0 < l.length := List.length_pos_iff.mpr nl
    refine ⟨_, (PSs.nox (pss_cons (ps_par (i := 2) (j := 3) (by rfl) sc_changed_in.nd rfl rfl (by decide) rfl rfl (pa_cons (pe_tup (pa_cons (pe_ix ix_tup (pv 0) pe_int (fun _ _ => rfl)) pa_nil)) (pa_cons (pe_tup (pa_cons pe_int pa_nil)) pa_nil)) (by rfl))
    (pss_cons (ps_for PassesOwn.never (by rfl) (pi_tup (pe_slice sl_tupA (pv 0) (po_some pe_int) po_none)) (pg_name (i := 4) sc_changed_in.nd rfl (.inr rfl))
      (pss_cons (ps_set (i := 3) sc_changed_in.nd rfl (.inl rfl) (pe_call G_product_in hr (by rfl) T.g_product_in T.F_product_in.kp T.b_product_in .nil pass0 (pa_cons (pv 3) (pa_cons (pe_ix ix_tup (pv 1) pe_int (fun _ _ => rfl)) pa_nil))))
      (pss_cons (ps_set (i := 5) sc_changed_in.nd rfl (.inl rfl) (pe_call G_product_in hr (by rfl) T.g_product_in T.F_product_in.kp T.b_product_in .nil pass0 (pa_cons (pv 2) (pa_cons (pe_ix ix_tup (pv 1) pe_int (fun _ _ => rfl)) pa_nil))))
      (pss_one (ps_set (i := 2) sc_changed_in.nd rfl (.inl rfl) (pe_tupleOf (by rfl) T.z_tuple (pe_lc (own := [("first", 6), ("second", 7)]) (g := (gTup K 2 (gCons (gName 6) (gCons (gName 7) gNil)))) (tt := tYes) (by rfl) sc_changed_in.nd (pi_zipA (by rfl) T.z_zip (pa_cons (pv 5) (pa_cons (pv 3) pa_nil))) (blkOk_by (N := N_changed_in) (sc := defScope s_changed_in) (by decide +kernel)) (fun _ _ _ _ _ => (pg_tup (by rfl) (pgs_cons (pg_name (i := 6) sc_changed_in.nd rfl (.inl rfl)) (pgs_cons (pg_name (i := 7) sc_changed_in.nd rfl (.inl rfl)) pgs_nil)))) (fun _ _ _ _ _ => pts_nil) (fun _ _ _ _ _ => (pe_op op_add (pv 6) (pe_op op_mulW (pv 4) (pv 7)))))))))))
    (pss_one (ps_ret (pv 2)))))), ?_⟩
    refine ⟨_, rfl, a, _, 0, _, rfl, rfl, SqT.of ha, atI_nat (get_int pl), by show 1 ≤ sizeLine; decide, fun p0 n0 => gen_upd H p0 (tp [co l 0]) n0 fun H1 s1 f1 => ⟨by show 1 ≤ sizeLine; decide, fun p1 n1 => gen_upd H1 p1 (tp [1]) n1 fun H2 s2 f2 => ⟨_, _, rfl, ?_⟩⟩⟩
    have s02 := s1.trans s2
    have e1 : HT.sIx l.length 0 (some 1) = 1 := by
      unfold HT.sIx
      simp only []
      split <;> omega
    have ecut : HO.tup (cutV (l.map V.int) (some 1) none) = tp l.tail := by
      rw [cut_tail _ (by rw [List.length_map]; exact pl), ← List.map_drop, List.drop_one]
    refine ⟨_, rfl, 1, rfl, a, _, rfl, SqT.of (s02 _ _ ha), fun z => absurd z.1 (by rw [List.length_map, e1]; decide), fun _ p2 n2 => ?_⟩
    rw [ecut]
    refine gen_upd H2 p2 (tp l.tail) n2 fun H3 s3 f3 => ?_
    have s03 := s02.trans s3
    have ltail : l.tail.length = l.length - 1 := List.length_tail
    refine ⟨p2, rfl, ⟨_, SqT.of f3⟩, for_tup (xs := l.tail.map V.int) (fun i σ H' => ∃ (f p : List Int) (fa pa : Addr) (y4 y5 : Option V), σ = [some (.ref a), some (.ref t), some (.ref fa), some (.ref pa), y4, y5, none, none] ∧ Same H3 H' ∧ H' fa = some (tp f) ∧ H' pa = some (tp p) ∧ f.length = i + 1 ∧ p.length = i + 1 ∧ ChOk X Y (l.tail.drop i) f p ∧ chg X Y (l.tail.drop i) f p = changed X Y l) ⟨_, _, p0, p1, none, none, rfl, Same.rf _, (s2.trans s3) _ _ f1, s3 _ _ f2, rfl, rfl, ok, rfl⟩ (fun i σ H' _ hP => ?_) (fun i z σ H' hz hP => ?_) (fun σ H' hP => ?_)⟩
    · obtain ⟨f, p, fa, pa, y4, y5, _, sH, _⟩ := hP
      exact SqT.of (sH _ _ f3)
    · obtain ⟨f, p, fa, pa, y4, y5, rfl, sH, hf, hp, lf, lp, okI, eI⟩ := hP
      obtain ⟨hi, rfl⟩ := int_get hz
      have ed : l.tail.drop i = co l.tail i :: l.tail.drop (i + 1) := by
        rw [co_get hi]
        exact List.drop_eq_getElem_cons hi
      rw [ed] at okI eI
      obtain ⟨rf, rp, se, rpY, rfX, okN⟩ := okI
      have tH := s03.trans sH
      refine ⟨_, rfl, _, rfl, t, _, 1, _, rfl, rfl, SqT.of (tH _ _ h1), atI_nat (j := 1) rfl, pa, r1, p, Y, rfl, hp, tH _ _ h3, rp.ne, rY.ne, rp.len, rY.len, rp.sm, rY.sm, fun q1 J1 g1 _ k1 => ?_⟩
      have tJ1 := tH.trans g1
      refine ⟨_, rfl, _, rfl, t, _, 0, _, rfl, rfl, SqT.of (tJ1 _ _ h1), atI_nat (j := 0) rfl, fa, r0, f, X, rfl, g1 _ _ hf, tJ1 _ _ h2, rf.ne, rX.ne, rf.len, rX.len, rf.sm, rX.sm, fun q2 J2 g2 _ k2 => ?_⟩
      have k1' := g2 _ _ k1
      have l1 : (ml p Y).length = i + 2 := by rw [ml_len, lp, lY]; omega
      have l2 : (ml f X).length = i + 2 := by rw [ml_len, lf, lX]; omega
      refine ⟨_, rfl, _, rfl, q2, q1, _, _, rfl, .inr ⟨SqT.of k2, SqT.of k1', fun D hD => ?_⟩⟩
      refine lc_zipT (xs := (ml f X).map V.int) (ys := (ml p Y).map V.int) (by rw [List.length_map, List.length_map, l1, l2]) (fun j H' => Same J2 H' ∧ H' D = some (.lst (tab j fun k => co (ml f X) k + co l.tail i * co (ml p Y) k))) ⟨same_upd0 hD, upd_same⟩ (fun j H' _ hP => ⟨SqT.of (hP.1 _ _ k2), SqT.of (hP.1 _ _ k1')⟩) (fun j x y T H' hx hy hP hT => ?_) (fun H4 hP => ?_)
      · obtain ⟨sH4, hD'⟩ := hP
        obtain ⟨hj, rfl⟩ := int_get hx
        obtain ⟨hj2, rfl⟩ := int_get hy
        have sT := same_upd0 (o := .tup [.int (co (ml f X) j), .int (co (ml p Y) j)]) hT
        refine ⟨T, _, rfl, SqT.of upd_same, rfl, _, _, rfl, _, _, rfl, rfl, rfl, _, rfl, _, rfl, _, rfl, _, _, rfl, rfl, sm_mul se (sm_co rpY.sm hj2), _, _, rfl, rfl, _, sT _ _ hD', ?_, fun b o e => ?_, ?_⟩
        · rw [tab_len]
          exact small1000 (by omega)
        · rw [upd_ne (ne_of_none e hD)]
          exact sT _ _ (sH4 _ _ e)
        · rw [upd_same, ← tab_snoc]
      · obtain ⟨sH4, hD'⟩ := hP
        rw [List.length_map] at hD'
        refine .inl ⟨D, _, rfl, SqL.of hD', fun p5 n5 => ?_⟩
        rw [tab_tb, zs_tb (by rw [l1, l2])]
        refine gen_upd H4 p5 _ n5 fun H5 s5 f5 => ⟨_, _, p5, q1, _, _, rfl, ((sH.trans (g1.trans g2)).trans sH4).trans s5, f5, (sH4.trans s5) _ _ k1', by rw [zs_len (by rw [l1, l2]), l2], l1, okN, eI⟩
    · obtain ⟨f, p, fa, pa, y4, y5, rfl, sH, hf, hp, lf, lp, okI, eI⟩ := hP
      rw [List.length_map, List.drop_length] at eI
      refine ⟨_, rfl, q fa H' (s03.trans sH) ?_⟩
      rw [← eI]
      exact hf
end
end K49

set_option Elab.async false
set_option linter.all false
set_option maxRecDepth 100000
set_option maxHeartbeats 4000000
namespace K49
open PySem PySem.Spec PyProof.Rows L2 StX RZ MyR SlX OwnR OwnF EnumT
section
variable {P : Program} {w : World} {K : PySem.W.Frag} {mg : Str → Option Value} {base : Heap}
/-- all that is derived on the way is let -/
structure DdOk (i j : Nat) (l : List Int) : Prop where
  len : i + j + 1 ≤ l.length
  le : l.length ≤ 100
  sx : ∀ u, u ≤ i → ∀ z ∈ it dX u l, sm z
  sy : ∀ u, u ≤ j → ∀ z ∈ it dY u (it dX i l), sm z
theorem Pr2.rw {X : List Int} (h : Pr2 X) : Rw X := ⟨fun z => (by have := h.len; rw [z] at this; cases this), (by rw [h.len]; decide), fun x hx => Nat.lt_trans (h.sho x hx) (by decide)⟩
end
end K49

set_option Elab.async false
set_option linter.all false
set_option maxRecDepth 100000
set_option maxHeartbeats 4000000
namespace K49
open PySem PySem.Spec PyProof.Rows L2 StX RZ MyR SlX OwnR OwnF EnumT
/-! ### how large changed and derived forms are -/
theorem bd_zs' {l m : List Int} {n b c : Nat} (e : Int) (h : Bd l n b) (g : Bd m n c) : Bd (zs e l m) n (b + e.natAbs * c) := by
  have hz : zs e l m = zs 1 l (m.map (e * ·)) := by
    refine co_inj (by rw [zs_len (by rw [h.len, g.len]), zs_len (by rw [List.length_map, h.len, g.len])]) fun k => ?_
    rw [co_zs' e (by rw [h.len, g.len]), co_zs' 1 (by rw [List.length_map, h.len, g.len]), co_map, Int.one_mul]
  rw [hz]
  exact bd_zs h (bd_scale g (Nat.le_refl _))
theorem nm_cons (x : Int) (xs : List Int) : nm (x :: xs) = x.natAbs + nm xs := rfl
theorem chOk_of {X Y : List Int} {b : Nat} (hb : 1 ≤ b) (hX : Bd X 1 b) (hY : Bd Y 1 b) : ∀ (r f p : List Int) (k S : Nat), Bd f k (S * b ^ k) → Bd p k (b ^ k) → k + r.length ≤ 90 → (S + nm r + 1) * b ^ (k + r.length) < 2 ^ 4000 → ChOk X Y r f p
  | [], _, _, _, _, _, _, _, _ => True.intro
  | e :: r, f, p, k, S, hf, hp, hk, hB => by
    have h1 := bd_ml hf hX
    have h2 := bd_ml hp hY
    have h3 := bd_zs' e h1 h2
    have h4 : Bd (zs e (ml f X) (ml p Y)) (k + 1) ((S + e.natAbs) * b ^ (k + 1)) := by
      refine h3.mono (Nat.le_of_eq ?_)
      rw [Nat.add_mul, Nat.pow_succ, Nat.mul_assoc]
    rw [List.length_cons] at hk hB
    rw [nm_cons] at hB
    have pk : b ^ k ≤ b ^ (k + (r.length + 1)) := Nat.pow_le_pow_right hb (by omega)
    have pk1 : b ^ (k + 1) ≤ b ^ (k + (r.length + 1)) := Nat.pow_le_pow_right hb (by omega)
    have fin : ∀ c d : Nat, c ≤ S + (e.natAbs + nm r) + 1 → d ≤ b ^ (k + (r.length + 1)) → c * d < 2 ^ 4000 := fun c d hc hd => Nat.lt_of_le_of_lt (Nat.mul_le_mul hc hd) hB
    have f1 := fin S _ (by omega) pk
    have f2 := fin 1 _ (by omega) pk
    have f3 := fin e.natAbs 1 (by omega) (Nat.pow_pos hb)
    have f4 := fin 1 _ (by omega) pk1
    have f5 := fin S _ (by omega) pk1
    rw [Nat.one_mul] at f2 f4
    rw [Nat.mul_one] at f3
    refine ⟨hf.rw (by omega) f1, hp.rw (by omega) f2, f3, h2.rw (by omega) (by rw [← Nat.pow_succ]; exact f4), h1.rw (by omega) (by rw [Nat.mul_assoc, ← Nat.pow_succ]; exact f5), ?_⟩
    refine chOk_of hb hX hY r _ _ (k + 1) (S + e.natAbs) h4 (by rw [Nat.pow_succ]; exact h2) (by omega) ?_
    rw [show k + 1 + r.length = k + (r.length + 1) by omega]
    exact Nat.lt_of_le_of_lt (Nat.mul_le_mul (by omega) (Nat.le_refl _)) hB
theorem changed_ok {X Y l : List Int} {n b B : Nat} (hb : 1 ≤ b) (hX : Bd X 1 b) (hY : Bd Y 1 b) (hl : Bd l n B) (hn : n ≤ 90) (hB : (B + 1) * b ^ n < 2 ^ 4000) : ChOk X Y l.tail [co l 0] [1] := by
  match l, hl with
  | a :: r, hl =>
    have hr : r.length = n := by have := hl.len; rw [List.length_cons] at this; omega
    have h0 : Bd [a] 0 (a.natAbs * b ^ 0) := ⟨rfl, by show a.natAbs + 0 ≤ _; rw [Nat.pow_zero]; omega⟩
    refine chOk_of hb hX hY r [a] [1] 0 a.natAbs h0 bd_one (by omega) ?_
    rw [Nat.zero_add, hr]
    exact Nat.lt_of_le_of_lt (Nat.mul_le_mul (by have := hl.nm; rw [nm_cons] at this; omega) (Nat.le_refl _)) hB
end K49

set_option Elab.async false
set_option linter.all false
set_option maxRecDepth 100000
set_option maxHeartbeats 4000000
namespace K49
open PySem PySem.Spec PyProof.Rows L2 StX RZ MyR SlX OwnR OwnF EnumT
section
variable {P : Program} {w : World} {K : PySem.W.Frag} {mg : Str → Option Value} {base : Heap}
theorem ok_law_value (T : Facts K mg) : FnOk P w K mg base CX0 1 T.f_law_value T.fd_law_value ["_law_form_here", "_law_x", "_law_y"] spValue := by
  refine T.F_law_value.ok sc_law_value (fun vs H Q E h => ?_) (fun cdv A outer s H vs Q E hr h => ?_)
  · obtain ⟨t, l, x, y, M, rfl, _⟩ := h
    rfl
  · obtain ⟨t, l, x, y, M, rfl, ht, hs, vb, q⟩ := h
    refine ⟨_, (PSs.nox (pss_cons (ps_asg (pe_tup (pa_cons pe_int (pa_cons pe_int pa_nil))) (pg_tup (by rfl) (pgs_cons (pg_name (i := 3) sc_law_value.nd rfl (.inl rfl)) (pgs_cons (pg_name (i := 4) sc_law_value.nd rfl (.inl rfl)) pgs_nil))))
    (pss_cons (ps_for PassesOwn.never (by rfl) (pi_tup (pv 0)) (pg_name (i := 5) sc_law_value.nd rfl (.inl rfl))
      (pss_one (ps_par (i := 3) (j := 4) (by rfl) sc_law_value.nd rfl rfl (by decide) rfl rfl (pa_cons (pe_op op_add (pe_op op_mulW (pv 3) (pv 1)) (pe_op op_mulW (pv 5) (pv 4))) (pa_cons (pe_op op_mulW (pv 4) (pv 2)) pa_nil)) (by rfl))))
    (pss_one (ps_ret (pv 3)))))), ?_⟩
    refine ⟨by show 2 ≤ sizeLine; decide, fun p0 n0 => gen_upd H p0 (.tup [.int 0, .int 1]) n0 fun H1 s1 f1 => ⟨p0, _, rfl, SqT.of f1, rfl, _, _, rfl, _, _, rfl, rfl, ?_⟩⟩
    have ht1 := s1 _ _ ht
    refine ⟨_, rfl, t, rfl, ⟨_, SqT.of ht1⟩, for_tup (xs := l.map V.int) (fun i σ H' => ∃ y5, σ = [some (.ref t), some (.int x), some (.int y), some (.int (vfs x y l i).1), some (.int (vfs x y l i).2), y5] ∧ H' = H1) ⟨none, rfl, rfl⟩ (fun i σ H' _ hP => by rw [hP.choose_spec.2]; exact SqT.of ht1) (fun i z σ H' hz hP => ?_) (fun σ H' hP => ?_)⟩
    · obtain ⟨y5, rfl, rfl⟩ := hP
      obtain ⟨hi, rfl⟩ := int_get hz
      obtain ⟨s1', s2'⟩ := vfs_sm vb i (by omega)
      obtain ⟨sx, sy⟩ := vb.smx
      exact ⟨_, rfl, _, rfl, _, _, rfl, rfl, sm_mul s1' sx, _, rfl, _, rfl, _, _, rfl, rfl, sm_mul (sm_co hs hi) s2', _, _, rfl, rfl, _, rfl, _, rfl, _, _, rfl, rfl, sm_mul s2' sy, _, _, rfl, _, rfl, rfl⟩
    · obtain ⟨y5, rfl, rfl⟩ := hP
      rw [List.length_map]
      refine ⟨_, rfl, ?_⟩
      rw [vfs_ev]
      exact q _ s1
/-- all that the law makes on its way is let -/
structure LchOk (X Y l : List Int) : Prop where
  ne : l ≠ []
  len : l.length ≤ 90
  lX : X.length = 2
  lY : Y.length = 2
  pX : ∀ i, i ≤ l.length → Rw (pow X i)
  pY : ∀ i, i ≤ l.length → Rw (pow Y i)
  pm : ∀ i, i < l.length → Rw (ml (pow X (l.length - 1 - i)) (pow Y i))
  sl : ∀ z ∈ l, sm z
def spLChanged : Sp := fun vs H Q _ => ∃ (a t : Addr) (l X Y : List Int), vs = [.ref a, .ref t] ∧ H a = some (tp l) ∧ Tb H t X Y ∧ LchOk X Y l ∧ ∀ p H', Same H H' → H' p = some (tp (changed X Y l)) → Q (.ref p) H'
theorem tab_repl (n : Nat) : tab n (fun _ => 0) = (List.replicate n (0 : Int)).map V.int := by
  rw [tab_tb]
  congr 1
  refine co_inj (by rw [tb_len, List.length_replicate]) fun k => ?_
  rw [co_tb]
  by_cases h : k < n
  · rw [if_pos h, co_get (by rw [List.length_replicate]; exact h), List.getElem_replicate]
  · rw [if_neg h, co_far (by rw [List.length_replicate]; omega)]
theorem ok_law_changed (T : Facts K mg) : FnOk P w K mg base CX0 3 T.f_law_changed T.fd_law_changed ["_law_form_here", "_law_table"] spLChanged := by
  have G_law_product := ok_law_product (P := P) (w := w) (base := base) T
  have G_law_power := ok_law_power (P := P) (w := w) (base := base) T
  have G_law_plus := ok_law_plus (P := P) (w := w) (base := base) T
  have G_law_scaled := ok_law_scaled (P := P) (w := w) (base := base) T
  refine T.F_law_changed.ok sc_law_changed (fun vs H Q E h => ?_) (fun cdv A outer s H vs Q E hr h => ?_)
  · obtain ⟨a, t, l, X, Y, rfl, _⟩ := h
    rfl
  · obtain ⟨a, t, l, X, Y, rfl, ha, ht, ok, q⟩ := h
    obtain ⟨r0, r1, h1, h2, h3⟩ := ht
    have hlen := ok.len
    have rX : Rw X := by have := ok.pX 1 (List.length_pos_iff.mpr ok.ne); rwa [show pow X 1 = X from by show ml [1] X = X; rw [ml_comm, ml_one]] at this
    have rY : Rw Y := by have := ok.pY 1 (List.length_pos_iff.mpr ok.ne); rwa [show pow Y 1 = Y from by show ml [1] Y = Y; rw [ml_comm, ml_one]] at this
    refine ⟨_, (PSs.nox (pss_cons (ps_set (i := 2) sc_law_changed.nd rfl (.inl rfl) (pe_tupleOf (by rfl) T.z_tuple (pe_lc (own := [("_law_entry", 3)]) (g := (gName 3)) (tt := tYes) (by rfl) sc_law_changed.nd (pi_tup (pv 0)) (blkOk_by (N := N_law_changed) (sc := defScope s_law_changed) (by decide +kernel)) (fun _ _ _ _ _ => (pg_name (i := 3) sc_law_changed.nd rfl (.inl rfl))) (fun _ _ _ _ _ => pts_nil) (fun _ _ _ _ _ => pe_int))))
    (pss_cons (ps_for PassesOwn.never (by rfl) (pi_enumT (by rfl) T.z_enumerate (pa_cons (pv 0) pa_nil)) (pg_tup (by rfl) (pgs_cons (pg_name (i := 4) sc_law_changed.nd rfl (.inl rfl)) (pgs_cons (pg_name (i := 3) sc_law_changed.nd rfl (.inl rfl)) pgs_nil)))
      (pss_cons (ps_set (i := 5) sc_law_changed.nd rfl (.inl rfl) (pe_call G_law_product (hr.mono (by decide)) (by rfl) T.g_law_product T.F_law_product.kp T.b_law_product .nil pass0 (pa_cons (pe_call G_law_power hr (by rfl) T.g_law_power T.F_law_power.kp T.b_law_power .nil pass0 (pa_cons (pe_ix ix_tup (pv 1) pe_int (fun _ _ => rfl)) (pa_cons (pe_op op_sub (pe_op op_sub (pe_callB call_len_seq (by rfl) T.z_len (by decide +kernel) (pa_cons (pv 0) pa_nil)) pe_int) (pv 4)) pa_nil))) (pa_cons (pe_call G_law_power hr (by rfl) T.g_law_power T.F_law_power.kp T.b_law_power .nil pass0 (pa_cons (pe_ix ix_tup (pv 1) pe_int (fun _ _ => rfl)) (pa_cons (pv 4) pa_nil))) pa_nil))))
      (pss_one (ps_set (i := 2) sc_law_changed.nd rfl (.inl rfl) (pe_call G_law_plus (hr.mono (by decide)) (by rfl) T.g_law_plus T.F_law_plus.kp T.b_law_plus .nil pass0 (pa_cons (pv 2) (pa_cons (pe_call G_law_scaled (hr.mono (by decide)) (by rfl) T.g_law_scaled T.F_law_scaled.kp T.b_law_scaled .nil pass0 (pa_cons (pv 5) (pa_cons (pv 3) pa_nil))) pa_nil)))))))
    (pss_one (ps_ret (pv 2)))))), ?_⟩
    refine ⟨_, rfl, a, rfl, ⟨_, SqT.of ha⟩, fun D hD => lc_tup (xs := l.map V.int) (fun j H' => H' = upd H D (.lst (tab j fun _ => 0))) rfl (fun j H' _ hP => by rw [hP]; exact SqT.of (same_upd0 hD _ _ ha)) (fun j x H' hx hP => ?_) (fun H' hP => ?_)⟩
    · subst hP
      obtain ⟨hj, rfl⟩ := int_get hx
      refine ⟨rfl, _, upd_same, by rw [tab_len]; exact small1000 (by omega), ?_⟩
      rw [upd_upd, ← tab_snoc]
    · subst hP
      rw [List.length_map, tab_repl]
      refine .inl ⟨D, _, rfl, SqL.of upd_same, fun p0 n0 => ?_⟩
      have sD := same_upd0 (o := .lst ((List.replicate l.length (0 : Int)).map V.int)) hD
      refine gen_upd _ p0 (tp (List.replicate l.length 0)) n0 fun H1 s1 f1 => ?_
      have s01 := sD.trans s1
      refine ⟨_, rfl, a, _, rfl, SqT.of (s01 _ _ ha), for_enumT (xs := l.map V.int) (fun i σ H' => ∃ fa y3 y4 y5, σ = [some (.ref a), some (.ref t), some (.ref fa), y3, y4, y5] ∧ Same H H' ∧ H' fa = some (tp (chL X Y l i))) ⟨p0, none, none, none, rfl, s01, f1⟩ (fun i σ H' hP => ?_) (fun i x B σ H' hx hP hB => ?_) (fun σ H' hP => ?_)⟩
      · obtain ⟨fa, y3, y4, y5, _, sH, _⟩ := hP
        exact SqT.of (sH _ _ ha)
      · obtain ⟨fa, y3, y4, y5, rfl, sH, hf⟩ := hP
        obtain ⟨hi, rfl⟩ := int_get hx
        refine gen_upd H' B _ hB fun H2 s2 f2 => ⟨B, _, rfl, SqT.of f2, rfl, _, _, rfl, _, _, rfl, rfl, ?_⟩
        have t2 := sH.trans s2
        refine ⟨_, rfl, t, _, 0, _, rfl, rfl, SqT.of (t2 _ _ h1), atI_nat (j := 0) rfl, _, rfl, a, _, rfl, .inr (SqT.of (t2 _ _ ha)), ?_⟩
        rw [List.length_map]
        refine ⟨_, _, rfl, rfl, _, rfl, _, _, rfl, rfl, r0, X, l.length - 1 - i, ?_, t2 _ _ h2, rX.ne, rX.len, rX.sm, fun k hk => ?_, by omega, fun p3 H3 s3 f3 => ?_⟩
        · show [V.ref r0, V.int ((l.length : Int) - 1 - (i : Int))] = [V.ref r0, V.int ((l.length - 1 - i : Nat) : Int)]
          rw [show (l.length : Int) - 1 - (i : Int) = ((l.length - 1 - i : Nat) : Int) by omega]
        · have r := ok.pX k (by omega)
          exact ⟨r.ne, r.len, r.sm⟩
        have t3 := t2.trans s3
        refine ⟨_, rfl, t, _, 1, _, rfl, rfl, SqT.of (t3 _ _ h1), atI_nat (j := 1) rfl, _, rfl, r1, Y, i, rfl, t3 _ _ h3, rY.ne, rY.len, rY.sm, fun k hk => ?_, by omega, fun p4 H4 s4 f4 => ?_⟩
        · have r := ok.pY k (by omega)
          exact ⟨r.ne, r.len, r.sm⟩
        have f3' := s4 _ _ f3
        have qX := ok.pX (l.length - 1 - i) (by omega)
        have qY := ok.pY i (by omega)
        have qm := ok.pm i hi
        refine ⟨p3, p4, _, _, rfl, f3', f4, qX.ne, qY.ne, qX.len, qY.len, qX.sm, qY.sm, fun p5 H5 s5 _ f5 => ?_⟩
        have t5 := (s2.trans s3).trans (s4.trans s5)
        refine ⟨_, rfl, _, rfl, _, rfl, p5, _, _, rfl, f5, qm.len, qm.sm, sm_co ok.sl hi, fun p6 H6 s6 _ f6 => ?_⟩
        have lc := chL_len (l := l) ok.lX ok.lY i (by omega)
        have lm : ((ml (pow X (l.length - 1 - i)) (pow Y i)).map (co l i * ·)).length = l.length := by
          rw [List.length_map, ml_len, pow_len ok.lX, pow_len ok.lY]
          omega
        exact ⟨fa, p6, _, _, rfl, (t5.trans s6) _ _ hf, f6, by rw [lc]; exact lm.symm, by rw [lc]; omega, fun p7 H7 s7 _ f7 => ⟨p7, _, _, _, rfl, sH.trans ((t5.trans s6).trans s7), f7⟩⟩
      · obtain ⟨fa, y3, y4, y5, rfl, sH, hf⟩ := hP
        rw [List.length_map, chL_all ok.lX ok.lY ok.ne] at hf
        exact ⟨_, rfl, q fa H' sH hf⟩
end
end K49

set_option Elab.async false
set_option linter.all false
set_option maxRecDepth 100000
set_option maxHeartbeats 4000000
namespace K49
open PySem PySem.Spec PyProof.Rows L2 StX RZ MyR SlX OwnR OwnF EnumT
section
variable {P : Program} {w : World} {K : PySem.W.Frag} {mg : Str → Option Value} {base : Heap}
theorem sm_le {x : Int} {n : Nat} (h : x.natAbs ≤ n) (hn : n < 2 ^ 200) : sm x := Nat.lt_of_le_of_lt h (Nat.lt_of_lt_of_le hn (Nat.pow_le_pow_right (by decide) (by decide)))
def spJoined : Sp := fun vs H Q _ => ∃ (t u : Addr) (a b c e a' b' c' e' : Int), vs = [.ref t, .ref u] ∧ Tb H t [a, b] [c, e] ∧ Tb H u [a', b'] [c', e'] ∧ (∀ x ∈ [a, b, c, e, a', b', c', e'], x.natAbs ≤ 100000000000000000000) ∧ ∀ p H', Same H H' → Tb H' p [a * a' + b * c', a * b' + b * e'] [c * a' + e * c', c * b' + e * e'] → Q (.ref p) H'
theorem ok_law_joined (T : Facts K mg) : FnOk P w K mg base CX0 1 T.f_law_joined T.fd_law_joined ["_law_one", "_law_other"] spJoined := by
  refine T.F_law_joined.ok sc_law_joined (fun vs H Q E h => ?_) (fun cdv A outer s H vs Q E hr h => ?_)
  · obtain ⟨t, u, a, b, c, e, a', b', c', e', rfl, _⟩ := h
    rfl
  · obtain ⟨t, u, a, b, c, e, a', b', c', e', rfl, ⟨r0, r1, f2, k0, k1⟩, ⟨o0, o1, g2, j0, j1⟩, hb, q⟩ := h
    refine ⟨_, (PSs.nox (pss_cons (ps_set (i := 2) sc_law_joined.nd rfl (.inl rfl) (pe_lst pa_nil))
    (pss_cons (ps_for PassesOwn.never (by rfl) (pi_tup (pv 0)) (pg_tup (by rfl) (pgs_cons (pg_name (i := 3) sc_law_joined.nd rfl (.inr rfl)) (pgs_cons (pg_name (i := 4) sc_law_joined.nd rfl (.inr rfl)) pgs_nil)))
      (pss_one (ps_expr (pe_bm PySem.F.plainAttrs_list PySem.F.slot_list_append PySem.F.type_list_append mt_append (pv 2) (pa_cons (pe_tupleOf (by rfl) T.z_tuple (pe_lc (own := [("_law_at", 5)]) (g := (gName 5)) (tt := tYes) (by rfl) sc_law_joined.nd (pi_range1 (by rfl) T.z_range (pa_cons pe_int pa_nil)) (blkOk_by (N := N_law_joined) (sc := defScope s_law_joined) (by decide +kernel)) (fun _ _ _ _ _ => (pg_name (i := 5) sc_law_joined.nd rfl (.inl rfl))) (fun _ _ _ _ _ => pts_nil) (fun _ _ _ _ _ => (pe_op op_add (pe_op op_mulW (pv 3) (pe_ix (ix_tup : IxR _ (rIxT K)) (pe_ix (ix_tup : IxR _ (rIxT K)) (pv 1) pe_int (fun _ _ => rfl)) (pv 5) (fun _ _ => rfl))) (pe_op op_mulW (pv 4) (pe_ix (ix_tup : IxR _ (rIxT K)) (pe_ix (ix_tup : IxR _ (rIxT K)) (pv 1) pe_int (fun _ _ => rfl)) (pv 5) (fun _ _ => rfl))))))) pa_nil)))))
    (pss_one (ps_ret (pe_tupleOf (by rfl) T.z_tuple (pv 2))))))), ?_⟩
    have row : ∀ x y : Int, tab 2 (fun k => x * co [a', b'] k + y * co [c', e'] k) = [V.int (x * a' + y * c'), V.int (x * b' + y * e')] := fun _ _ => rfl
    refine ⟨by show 0 ≤ sizeLine; exact Nat.zero_le _, fun R nR => gen_upd H R (.lst []) nR fun H1 s1 fR => ⟨_, rfl, t, rfl, ⟨_, SqT.of (s1 _ _ f2)⟩, for_tup (xs := [.ref r0, .ref r1]) (fun i σ H' => ∃ (rs : List Addr) (y3 y4 : Option V), σ = [some (.ref t), some (.ref u), some (.ref R), y3, y4, none] ∧ Same H H' ∧ H' R = some (.lst (rs.map V.ref)) ∧ rs.length = i ∧ ∀ k (h : k < rs.length), H' rs[k] = some (.tup (tab 2 fun k' => (if k = 0 then a else c) * co [a', b'] k' + (if k = 0 then b else e) * co [c', e'] k'))) ⟨[], none, none, rfl, s1, fR, rfl, fun k h => absurd h (Nat.not_lt_zero k)⟩ (fun i σ H' _ hP => ?_) (fun i x σ H' hx hP => ?_) (fun σ H' hP => ?_)⟩⟩
    · obtain ⟨rs, y3, y4, _, sH, _⟩ := hP
      exact SqT.of (sH _ _ f2)
    · obtain ⟨rs, y3, y4, rfl, sH, hR, hl, hrs⟩ := hP
      have hi : i < 2 := (List.getElem?_eq_some_iff.mp hx).1
      obtain ⟨r, z1, z2, rfl, hr, b1, b2, ez1, ez2⟩ : ∃ r z1 z2, x = .ref r ∧ H r = some (tp [z1, z2]) ∧ z1.natAbs ≤ 100000000000000000000 ∧ z2.natAbs ≤ 100000000000000000000 ∧ z1 = (if i = 0 then a else c) ∧ z2 = (if i = 0 then b else e) := by
        match i, hi, hx with
        | 0, _, hx => cases hx; exact ⟨r0, a, b, rfl, k0, hb a (by simp), hb b (by simp), rfl, rfl⟩
        | 1, _, hx => cases hx; exact ⟨r1, c, e, rfl, k1, hb c (by simp), hb e (by simp), rfl, rfl⟩
      refine ⟨r, _, rfl, SqT.of (sH _ _ hr), rfl, _, _, rfl, _, _, rfl, rfl, ?_⟩
      have nRR : ∀ b o, H b = some o → b ≠ R := fun b o e => ne_of_none e nR
      refine ⟨_, rfl, .inl ⟨rfl, _, SqL.of hR⟩, 2, rfl, by decide, by decide, fun D hD => lc_range (n := (2 : Int).toNat) (fun j H2 => Same H' H2 ∧ H2 D = some (.lst (tab j fun k => z1 * co [a', b'] k + z2 * co [c', e'] k))) ⟨same_upd0 hD, upd_same⟩ (fun j H2 hj hP2 => ?_) (fun H2 hP2 => ?_)⟩
      · obtain ⟨s2, hL⟩ := hP2
        have hj2 : j < 2 := hj
        have t2 := sH.trans s2
        have ej : (0 : Int) + (j : Int) = ((j : Nat) : Int) := by omega
        have sb0 : sm (co [a', b'] j) := by
          match j, hj2 with
          | 0, _ => exact sm_le (hb a' (by simp)) (by decide)
          | 1, _ => exact sm_le (hb b' (by simp)) (by decide)
        have sb1 : sm (co [c', e'] j) := by
          match j, hj2 with
          | 0, _ => exact sm_le (hb c' (by simp)) (by decide)
          | 1, _ => exact sm_le (hb e' (by simp)) (by decide)
        refine ⟨rfl, _, rfl, _, rfl, u, _, 0, _, rfl, rfl, SqT.of (t2 _ _ g2), atI_nat (j := 0) rfl, _, rfl, o0, _, _, _, rfl, rfl, SqT.of (t2 _ _ j0), at_of ej (get_int (xs := [a', b']) hj2), _, _, rfl, rfl, sm_mul (sm_le b1 (by decide)) sb0, ?_⟩
        refine ⟨_, rfl, _, rfl, u, _, 1, _, rfl, rfl, SqT.of (t2 _ _ g2), atI_nat (j := 1) rfl, _, rfl, o1, _, _, _, rfl, rfl, SqT.of (t2 _ _ j1), at_of ej (get_int (xs := [c', e']) hj2), _, _, rfl, rfl, sm_mul (sm_le b2 (by decide)) sb1, _, _, rfl, rfl, _, hL, ?_, fun b o e => ?_, ?_⟩
        · rw [tab_len]
          exact small1000 (by omega)
        · rw [upd_ne (ne_of_none e hD)]
          exact s2 _ _ e
        · rw [upd_same, ← tab_snoc]
      · obtain ⟨s2, hL⟩ := hP2
        refine .inl ⟨D, _, rfl, SqL.of hL, fun p np => gen_upd H2 p _ np fun H3 s3 f3 => ?_⟩
        have hR3 := s3 _ _ (s2 _ _ hR)
        refine ⟨R, _, _, rfl, rfl, hR3, by rw [List.length_map]; exact small1000 (by omega), rs ++ [p], _, _, rfl, fun b o e => ?_, by rw [upd_same, List.map_append]; rfl, by rw [List.length_append, hl]; rfl, fun k h => ?_⟩
        · rw [upd_ne (nRR b o e)]
          exact s3 _ _ (s2 _ _ (sH _ _ e))
        · have nk : ∀ q zs, H3 q = some (.tup zs) → q ≠ R := fun q zs e z => by
            rw [z, hR3] at e
            cases e
          by_cases cc : k < rs.length
          · rw [show (rs ++ [p])[k] = rs[k] from List.getElem_append_left _]
            have e3 := s3 _ _ (s2 _ _ (hrs k cc))
            rw [upd_ne (nk _ _ e3)]
            exact e3
          · have ek : k = rs.length := by rw [List.length_append] at h; simp at h; omega
            subst ek
            rw [show (rs ++ [p])[rs.length] = p by rw [List.getElem_append_right (Nat.le_refl _)]; simp, upd_ne (nk _ _ f3), f3, hl, ← ez1, ← ez2]
            rfl
    · obtain ⟨rs, y3, y4, rfl, sH, hR, hl, hrs⟩ := hP
      match rs, hl, hR, hrs with
      | [p0, p1], _, hR, hrs =>
        have w0 := hrs 0 (by simp)
        have w1 := hrs 1 (by simp)
        refine ⟨_, rfl, .inl ⟨R, _, rfl, SqL.of hR, fun p np => gen_upd H' p (.tup [.ref p0, .ref p1]) np fun H3 s3 f3 => q p H3 (sH.trans s3) ⟨p0, p1, f3, s3 _ _ w0, s3 _ _ w1⟩⟩⟩
end
end K49

set_option Elab.async false
set_option linter.all false
set_option maxRecDepth 100000
set_option maxHeartbeats 4000000
namespace K49
open PySem PySem.Spec PyProof.Rows L2 StX RZ MyR SlX OwnR OwnF EnumT
theorem ne_of2 {l : List Int} (h : 1 ≤ l.length) : l ≠ [] := List.length_pos_iff.mp h
theorem lt400 {x i : Nat} (h : x ≤ 2 ^ i) (hi : i < 4000) : x < 2 ^ 4000 := Nat.lt_of_le_of_lt h (Nat.pow_lt_pow_right (by decide) hi)
def md (p : Int) (l : List Int) : List Int := l.map (· % p)
theorem md_len (p : Int) (l : List Int) : (md p l).length = l.length := List.length_map ..
theorem md_md (p : Int) (l : List Int) : md p (md p l) = md p l := by
  unfold md
  rw [List.map_map]
  exact List.map_congr_left fun x _ => Int.emod_emod_of_dvd x (Int.dvd_refl p)
theorem co_md (p : Int) (l : List Int) (k : Nat) : co (md p l) k = co l k % p := by
  unfold co md
  rw [List.getD_eq_getElem?_getD, List.getD_eq_getElem?_getD, List.getElem?_map]
  cases l[k]? with
  | none => exact (Int.zero_emod p).symm
  | some x => rfl
theorem eqm_of {p : Int} {a b : List Int} (hl : a.length = b.length) (h : ∀ k, co a k % p = co b k % p) : md p a = md p b :=
  co_inj (by rw [md_len, md_len, hl]) fun k => by rw [co_md, co_md, h k]
theorem eqm_co {p : Int} {a b : List Int} (h : md p a = md p b) (k : Nat) : co a k % p = co b k % p := by rw [← co_md, ← co_md, h]
theorem eqm_len {p : Int} {a b : List Int} (h : md p a = md p b) : a.length = b.length := by rw [← md_len p a, ← md_len p b, h]
theorem md_zs (p : Int) {a h : List Int} (hl : a.length = h.length) : md p (zs p a h) = md p a :=
  eqm_of (zs_len hl) fun k => by rw [co_zs' p hl, Int.add_mul_emod_self_left]
/-- what differs by multiples of p -/
theorem eqm_zs {p : Int} {a b : List Int} (h : md p a = md p b) : ∃ q : List Int, q.length = b.length ∧ a = zs p b q := by
  have hl := eqm_len h
  refine ⟨tb b.length fun k => co a k / p - co b k / p, tb_len _ _, co_inj (by rw [zs_len (tb_len _ _).symm, hl]) fun k => ?_⟩
  rw [co_zs' p (tb_len _ _).symm, co_tb]
  have e := eqm_co h k
  have e1 := Int.emod_add_mul_ediv (co a k) p
  have e2 := Int.emod_add_mul_ediv (co b k) p
  by_cases hk : k < b.length
  · rw [if_pos hk, Int.mul_sub]
    omega
  · rw [if_neg hk, co_far (by omega), co_far (by omega), Int.mul_zero]
    rfl
theorem ml_zsl {l m h : List Int} (c : Int) (hl : l.length = h.length) (nl : l ≠ []) (nm' : m ≠ []) : ml (zs c l h) m = zs c (ml l m) (ml h m) := by
  have h0 : h ≠ [] := fun e => by
    rw [e] at hl
    exact nl (List.eq_nil_of_length_eq_zero hl)
  have z0 : zs c l h ≠ [] := ne_of2 (by rw [zs_len hl]; exact List.length_pos_iff.mpr nl)
  have e1 : (ml l m).length = (ml h m).length := by rw [ml_len, ml_len, hl]
  refine ev_inj (by rw [ml_len, zs_len hl, zs_len e1, ml_len]) fun x y => ?_
  rw [ev_ml z0 nm', ev_zs c hl, ev_zs c e1, ev_ml nl nm', ev_ml h0 nm']
  grind
theorem ml_zsr {l m h : List Int} (c : Int) (hl : m.length = h.length) (nl : l ≠ []) (nm' : m ≠ []) : ml l (zs c m h) = zs c (ml l m) (ml l h) := by
  have h0 : h ≠ [] := fun e => by
    rw [e] at hl
    exact nm' (List.eq_nil_of_length_eq_zero hl)
  have z0 : zs c m h ≠ [] := ne_of2 (by rw [zs_len hl]; exact List.length_pos_iff.mpr nm')
  have e1 : (ml l m).length = (ml l h).length := by rw [ml_len, ml_len, hl]
  refine ev_inj (by rw [ml_len, zs_len hl, zs_len e1, ml_len]) fun x y => ?_
  rw [ev_ml nl z0, ev_zs c hl, ev_zs c e1, ev_ml nl nm', ev_ml nl h0]
  grind
theorem eqm_ml {p : Int} {l l' m m' : List Int} (h1 : md p l = md p l') (h2 : md p m = md p m') (nl : l' ≠ []) (nm' : m' ≠ []) : md p (ml l m) = md p (ml l' m') := by
  obtain ⟨q, hq, e1⟩ := eqm_zs h1
  obtain ⟨r, hr, e2⟩ := eqm_zs h2
  have n2 : m ≠ [] := ne_of2 (by rw [eqm_len h2]; exact List.length_pos_iff.mpr nm')
  rw [e1, ml_zsl p hq.symm nl n2, md_zs p (by rw [ml_len, ml_len, hq]), e2, ml_zsr p hr.symm nl nm', md_zs p (by rw [ml_len, ml_len, hr])]
theorem eqm_zs2 {p c c' : Int} {a a' b b' : List Int} (hc : c % p = c' % p) (h1 : md p a = md p a') (h2 : md p b = md p b') (hl : a'.length = b'.length) : md p (zs c a b) = md p (zs c' a' b') := by
  have l1 := eqm_len h1
  have l2 := eqm_len h2
  refine eqm_of (by rw [zs_len (by omega), zs_len hl, l1]) fun k => ?_
  rw [co_zs' c (by omega), co_zs' c' hl, Int.add_emod, Int.mul_emod, eqm_co h1, eqm_co h2, hc, ← Int.mul_emod, ← Int.add_emod]
theorem eqm_cons {p a a' : Int} {r r' : List Int} (h : md p (a :: r) = md p (a' :: r')) : a % p = a' % p ∧ md p r = md p r' := by
  unfold md at h
  rw [List.map_cons, List.map_cons] at h
  exact ⟨(List.cons.inj h).1, (List.cons.inj h).2⟩
theorem eqm_chg {p : Int} {X X' Y Y' : List Int} (hX : md p X = md p X') (hY : md p Y = md p Y') (lX : X'.length = 2) (lY : Y'.length = 2) : ∀ (r r' f f' q q' : List Int), md p r = md p r' → md p f = md p f' → md p q = md p q' → f' ≠ [] → f'.length = q'.length → md p (chg X Y r f q) = md p (chg X' Y' r' f' q')
  | [], [], f, f', q, q', _, h, _, _, _ => h
  | [], _ :: _, f, f', q, q', hr, _, _, _, _ => by cases hr
  | _ :: _, [], f, f', q, q', hr, _, _, _, _ => by cases hr
  | e :: r, e' :: r', f, f', q, q', hr, hf, hq, nf, hl => by
    obtain ⟨he, hr2⟩ := eqm_cons hr
    have nX : X' ≠ [] := ne_of2 (by omega)
    have nY : Y' ≠ [] := ne_of2 (by omega)
    have pf : 0 < f'.length := List.length_pos_iff.mpr nf
    have nq : q' ≠ [] := ne_of2 (by omega)
    have l1 : (ml f' X').length = f'.length + 1 := by rw [ml_len, lX]; omega
    have l2 : (ml q' Y').length = f'.length + 1 := by rw [ml_len, lY, ← hl]; omega
    have a1 := eqm_ml hf hX nf nX
    have a2 := eqm_ml hq hY nq nY
    exact eqm_chg hX hY lX lY r r' _ _ _ _ hr2 (eqm_zs2 he a1 a2 (by rw [l1, l2])) a2 (ne_of2 (by rw [zs_len (by rw [l1, l2]), l1]; omega)) (by rw [zs_len (by rw [l1, l2]), l1, l2])
theorem eqm_changed {p : Int} {X X' Y Y' l l' : List Int} (hX : md p X = md p X') (hY : md p Y = md p Y') (lX : X'.length = 2) (lY : Y'.length = 2) (hl : md p l = md p l') (nl : l' ≠ []) : md p (changed X Y l) = md p (changed X' Y' l') := by
  have hle := eqm_len hl
  cases l' with
  | nil => exact absurd rfl nl
  | cons a' r' =>
    cases l with
    | nil => cases hle
    | cons a r =>
      obtain ⟨h1, h2⟩ := eqm_cons hl
      refine eqm_chg hX hY lX lY r r' [a] [a'] [1] [1] h2 ?_ rfl (by simp) rfl
      show [a % p] = [a' % p]
      rw [h1]
theorem md_nonneg {p : Int} (hp : 0 < p) {l : List Int} : ∀ z ∈ md p l, 0 ≤ z ∧ z < p := fun z hz => by
  obtain ⟨x, _, rfl⟩ := List.mem_map.mp hz
  exact ⟨Int.emod_nonneg _ (by omega), Int.emod_lt_of_pos _ hp⟩
end K49

set_option Elab.async false
set_option linter.all false
set_option maxRecDepth 100000
set_option maxHeartbeats 4000000
namespace K49
open PySem PySem.Spec PyProof.Rows L2 StX RZ MyR SlX OwnR OwnF EnumT
/-- the primes -/
def PR : List Int := [13, 17, 19, 23, 29, 31, 37, 41, 43, 47, 53, 59, 61, 67, 71, 73, 79, 83, 89, 97, 101]
theorem pr_bd {p : Int} (h : p ∈ PR) : 13 ≤ p ∧ p ≤ 101 := (by decide : ∀ p ∈ PR, 13 ≤ p ∧ p ≤ 101) p h
theorem pr_any {p : Int} (h : p ∈ PR) : PR.any (· == p) = true := List.any_eq_true.mpr ⟨p, h, by simp⟩
theorem tb_md (p : Int) (l : List Int) : (tb l.length fun k => co l k % p) = md p l := tb_map (fun x => x % p) l
theorem sm20 {x : Int} (h : x.natAbs ≤ 10 ^ 45) : sm x := lt400 (i := 150) (Nat.le_trans h (by decide)) (by decide)
section
variable {P : Program} {w : World} {K : PySem.W.Frag} {mg : Str → Option Value} {base : Heap}
def spReqPrime : Sp := fun vs H Q _ => ∃ p : Int, vs = [.int p] ∧ p ∈ PR ∧ Q .non H
theorem ok_require_prime (T : Facts K mg) : FnOk P w K mg base CX0 3 T.f_require_prime T.fd_require_prime ["value"] spReqPrime := by
  have G_is_short := ok_is_short (P := P) (w := w) (base := base) T
  refine T.F_require_prime.ok sc_require_prime (fun vs H Q E h => ?_) (fun cdv A outer s H vs Q E hr h => ?_)
  · obtain ⟨p, rfl, _⟩ := h
    rfl
  · obtain ⟨p, rfl, hp, q⟩ := h
    refine ⟨_, (PSs.nox (pss_one (ps_if (pw_or (pt_not (pt_val (pe_call G_is_short hr (by rfl) T.g_is_short T.F_is_short.kp T.b_is_short .nil pass0 (pa_cons (pv 0) pa_nil)))) (pw_or1 (pt_cmpR StatT.op_notInTI (pv 0) (pe_glob (v := .ref T.A_PRIMES) (by rfl) T.t_PRIMES.g rfl) (by rfl)))).pt
      (pss_one ps_never)
      pss_nil))), ?_⟩
    obtain ⟨p1, p2⟩ := pr_bd hp
    refine ⟨_, rfl, p, rfl, Nat.lt_of_le_of_lt (show p.natAbs ≤ 101 by omega) (by decide), true, rfl, iteF ⟨_, rfl, p, T.A_PRIMES, PR, rfl, rfl, T.t_PRIMES.sq H, ?_⟩⟩
    rw [pr_any hp]
    exact ⟨false, rfl, iteF q⟩
def spModulo : Sp := fun vs H Q _ => ∃ (p : Int) (t : Addr) (xs : List Int), vs = [.int p, .ref t] ∧ 0 < p ∧ H t = some (tp xs) ∧ xs.length ≤ 100 ∧ ∀ q H', Same H H' → H q = none → H' q = some (tp (md p xs)) → Q (.ref q) H'
theorem ok_modulo (T : Facts K mg) : FnOk P w K mg base CX0 1 T.f_modulo T.fd_modulo ["prime", "numbers"] spModulo := by
  refine T.F_modulo.ok sc_modulo (fun vs H Q E h => ?_) (fun cdv A outer s H vs Q E hr h => ?_)
  · obtain ⟨p, t, xs, rfl, _⟩ := h
    rfl
  · obtain ⟨p, t, xs, rfl, hp, ht, hl, q⟩ := h
    refine ⟨_, (PSs.nox (pss_one (ps_ret (pe_tupleOf (by rfl) T.z_tuple (pe_lc (own := [("number", 2)]) (g := (gName 2)) (tt := tYes) (by rfl) sc_modulo.nd (pi_tup (pv 1)) (blkOk_by (N := N_modulo) (sc := defScope s_modulo) (by decide +kernel)) (fun _ _ _ _ _ => (pg_name (i := 2) sc_modulo.nd rfl (.inl rfl))) (fun _ _ _ _ _ => pts_nil) (fun _ _ _ _ _ => (pe_op op_mod (pv 2) (pv 0)))))))), ?_⟩
    refine ⟨_, rfl, t, rfl, ⟨_, SqT.of ht⟩, fun D hD => lc_tup (xs := xs.map V.int) (fun j H' => H' = upd H D (.lst (tab j fun k => co xs k % p))) rfl (fun j H' _ hP => ?_) (fun j x H' hx hP => ?_) (fun H' hP => ?_)⟩
    · rw [hP]
      exact SqT.of (same_upd0 hD _ _ ht)
    · subst hP
      obtain ⟨hj, rfl⟩ := int_get hx
      refine ⟨rfl, ⟨_, rfl, _, rfl, _, _, rfl, rfl, hp, _, upd_same, ?_, ?_⟩⟩
      · rw [tab_len]
        exact small1000 (by omega)
      · rw [upd_upd, ← tab_snoc]
    · subst hP
      rw [List.length_map, tab_tb, tb_md p xs]
      refine .inl ⟨D, _, rfl, SqL.of upd_same, fun p2 hp2 => ?_⟩
      exact q p2 _ ((same_upd0 hD).trans (same_upd0 hp2)) (Same.free (same_upd0 hD) hp2) upd_same
def spDet : Sp := fun vs H Q _ => ∃ (t : Addr) (a b c e : Int), vs = [.ref t] ∧ Tb H t [a, b] [c, e] ∧ a.natAbs ≤ 10 ^ 45 ∧ b.natAbs ≤ 10 ^ 45 ∧ c.natAbs ≤ 10 ^ 45 ∧ e.natAbs ≤ 10 ^ 45 ∧ Q (.int (a * e - b * c)) H
theorem ok_law_det (T : Facts K mg) : FnOk P w K mg base CX0 1 T.f_law_det T.fd_law_det ["_law_table"] spDet := by
  refine T.F_law_det.ok sc_law_det (fun vs H Q E h => ?_) (fun cdv A outer s H vs Q E hr h => ?_)
  · obtain ⟨t, a, b, c, e, rfl, _⟩ := h
    rfl
  · obtain ⟨t, a, b, c, e, rfl, ⟨r0, r1, f2, k0, k1⟩, ba, bb, bc, be, q⟩ := h
    refine ⟨_, (PSs.nox (pss_one (ps_ret (pe_op op_sub (pe_op op_mulW (pe_ix ix_tup (pe_ix ix_tup (pv 0) pe_int (fun _ _ => rfl)) pe_int (fun _ _ => rfl)) (pe_ix ix_tup (pe_ix ix_tup (pv 0) pe_int (fun _ _ => rfl)) pe_int (fun _ _ => rfl))) (pe_op op_mulW (pe_ix ix_tup (pe_ix ix_tup (pv 0) pe_int (fun _ _ => rfl)) pe_int (fun _ _ => rfl)) (pe_ix ix_tup (pe_ix ix_tup (pv 0) pe_int (fun _ _ => rfl)) pe_int (fun _ _ => rfl))))))), ?_⟩
    refine ⟨_, rfl, t, _, 0, _, rfl, rfl, SqT.of f2, atI_nat (j := 0) rfl, r0, _, 0, _, rfl, rfl, SqT.of k0, atI_nat (j := 0) rfl, _, rfl, t, _, 1, _, rfl, rfl, SqT.of f2, atI_nat (j := 1) rfl, r1, _, 1, _, rfl, rfl, SqT.of k1, atI_nat (j := 1) rfl, _, _, rfl, rfl, sm_mul (sm20 ba) (sm20 be), ?_⟩
    exact ⟨_, rfl, t, _, 0, _, rfl, rfl, SqT.of f2, atI_nat (j := 0) rfl, r0, _, 1, _, rfl, rfl, SqT.of k0, atI_nat (j := 1) rfl, _, rfl, t, _, 1, _, rfl, rfl, SqT.of f2, atI_nat (j := 1) rfl, r1, _, 0, _, rfl, rfl, SqT.of k1, atI_nat (j := 0) rfl, _, _, rfl, rfl, sm_mul (sm20 bb) (sm20 bc), _, _, rfl, rfl, q⟩
theorem ok_determinant_in (T : Facts K mg) : FnOk P w K mg base CX0 1 T.f_determinant_in T.fd_determinant_in ["table"] spDet := by
  refine T.F_determinant_in.ok sc_determinant_in (fun vs H Q E h => ?_) (fun cdv A outer s H vs Q E hr h => ?_)
  · obtain ⟨t, a, b, c, e, rfl, _⟩ := h
    rfl
  · obtain ⟨t, a, b, c, e, rfl, ⟨r0, r1, f2, k0, k1⟩, ba, bb, bc, be, q⟩ := h
    refine ⟨_, (PSs.nox (pss_one (ps_ret (pe_op op_sub (pe_op op_mulW (pe_ix ix_tup (pe_ix ix_tup (pv 0) pe_int (fun _ _ => rfl)) pe_int (fun _ _ => rfl)) (pe_ix ix_tup (pe_ix ix_tup (pv 0) pe_int (fun _ _ => rfl)) pe_int (fun _ _ => rfl))) (pe_op op_mulW (pe_ix ix_tup (pe_ix ix_tup (pv 0) pe_int (fun _ _ => rfl)) pe_int (fun _ _ => rfl)) (pe_ix ix_tup (pe_ix ix_tup (pv 0) pe_int (fun _ _ => rfl)) pe_int (fun _ _ => rfl))))))), ?_⟩
    refine ⟨_, rfl, t, _, 0, _, rfl, rfl, SqT.of f2, atI_nat (j := 0) rfl, r0, _, 0, _, rfl, rfl, SqT.of k0, atI_nat (j := 0) rfl, _, rfl, t, _, 1, _, rfl, rfl, SqT.of f2, atI_nat (j := 1) rfl, r1, _, 1, _, rfl, rfl, SqT.of k1, atI_nat (j := 1) rfl, _, _, rfl, rfl, sm_mul (sm20 ba) (sm20 be), ?_⟩
    exact ⟨_, rfl, t, _, 0, _, rfl, rfl, SqT.of f2, atI_nat (j := 0) rfl, r0, _, 1, _, rfl, rfl, SqT.of k0, atI_nat (j := 1) rfl, _, rfl, t, _, 1, _, rfl, rfl, SqT.of f2, atI_nat (j := 1) rfl, r1, _, 0, _, rfl, rfl, SqT.of k1, atI_nat (j := 0) rfl, _, _, rfl, rfl, sm_mul (sm20 bb) (sm20 bc), _, _, rfl, rfl, q⟩
def spIsPT : Sp := fun vs H Q _ => ∃ (p : Int) (t : Addr) (a b c e : Int), vs = [.int p, .ref t] ∧ 0 < p ∧ Tb H t [a, b] [c, e] ∧ a.natAbs ≤ 10 ^ 45 ∧ b.natAbs ≤ 10 ^ 45 ∧ c.natAbs ≤ 10 ^ 45 ∧ e.natAbs ≤ 10 ^ 45 ∧ (a * e - b * c) % p ≠ 0 ∧ ∀ H', Same H H' → Q (.bl true) H'
theorem ok_is_prime_table (T : Facts K mg) : FnOk P w K mg base CX0 3 T.f_is_prime_table T.fd_is_prime_table ["prime", "value"] spIsPT := by
  have G_is_short := ok_is_short (P := P) (w := w) (base := base) T
  have G_determinant_in := ok_determinant_in (P := P) (w := w) (base := base) T
  refine T.F_is_prime_table.ok sc_is_prime_table (fun vs H Q E h => ?_) (fun cdv A outer s H vs Q E hr h => ?_)
  · obtain ⟨p, t, a, b, c, e, rfl, _⟩ := h
    rfl
  · obtain ⟨p, t, a, b, c, e, rfl, hp, ⟨r0, r1, h1, h2, h3⟩, ba, bb, bc, be, hd, q⟩ := h
    refine ⟨_, (PSs.nox (pss_cons (ps_if (pw_or (pt_not (pt_val (pe_callB call_isi (by rfl) T.z_isinstance (by decide +kernel) (pa_cons (pv 1) (pa_cons (pe_bltn (v := .ty "tuple") (by rfl) T.z_tuple (by decide +kernel) rfl) pa_nil))))) (pw_or1 (pt_cmpR op_ne (pe_callB call_len_seq (by rfl) T.z_len (by decide +kernel) (pa_cons (pv 1) pa_nil)) pe_int (nomark _)))).pt
      (pss_one (ps_ret pe_bl))
      pss_nil)
    (pss_cons (ps_for PassesOwn.never (by rfl) (pi_tup (pv 1)) (pg_name (i := 2) sc_is_prime_table.nd rfl (.inl rfl))
      (pss_one (ps_if (pw_or (pt_not (pt_val (pe_callB call_isi (by rfl) T.z_isinstance (by decide +kernel) (pa_cons (pv 2) (pa_cons (pe_bltn (v := .ty "tuple") (by rfl) T.z_tuple (by decide +kernel) rfl) pa_nil))))) (pw_or (pt_cmpR op_ne (pe_callB call_len_seq (by rfl) T.z_len (by decide +kernel) (pa_cons (pv 2) pa_nil)) pe_int (nomark _)) (pw_or1 (pt_not (pt_val (pe_callB (cr_all (by rfl)) (by rfl) T.z_all (by decide +kernel) (pa_cons (pe_lc (own := [("one", 3)]) (g := (gName 3)) (tt := tYes) (by rfl) sc_is_prime_table.nd (pi_tup (pv 2)) (blkOk_by (N := N_is_prime_table) (sc := defScope s_is_prime_table) (by decide +kernel)) (fun _ _ _ _ _ => (pg_name (i := 3) sc_is_prime_table.nd rfl (.inl rfl))) (fun _ _ _ _ _ => pts_nil) (fun _ _ _ _ _ => (pe_call G_is_short hr (by rfl) T.g_is_short T.F_is_short.kp T.b_is_short .nil pass0 (pa_cons (pv 3) pa_nil)))) pa_nil))))))).pt
        (pss_one (ps_ret pe_bl))
        pss_nil)))
    (pss_one (ps_ret (pe_cmpR op_ne (pe_op op_mod (pe_call G_determinant_in (hr.mono (by decide)) (by rfl) T.g_determinant_in T.F_determinant_in.kp T.b_determinant_in .nil pass0 (pa_cons (pv 1) pa_nil)) (pv 0)) pe_int (nomark _))))))), ?_⟩
    refine ⟨_, rfl, .ref t, .ty "tuple", .type "tuple", .type "tuple", true, rfl, .ty "tuple", .base (.tup h1), kit_ty (show kitB "tuple" "tuple" = some true by decide +kernel), true, rfl, iteF ?_⟩
    refine ⟨_, rfl, t, _, rfl, .inr (SqT.of h1), rfl, _, rfl, iteF ?_⟩
    refine ⟨_, rfl, t, rfl, ⟨_, SqT.of h1⟩, for_tup (xs := [.ref r0, .ref r1]) (fun i σ H' => ∃ y2 y3, σ = [some (.int p), some (.ref t), y2, y3] ∧ Same H H') ⟨none, none, rfl, Same.rf H⟩ (fun i σ H' _ hP => ?_) (fun i x σ H' hx hP => ?_) (fun σ H' hP => ?_)⟩
    · obtain ⟨y2, y3, _, sH⟩ := hP
      exact SqT.of (sH _ _ h1)
    · obtain ⟨y2, y3, rfl, sH⟩ := hP
      have sh : ∀ {z : Int}, z.natAbs ≤ 10 ^ 45 → Sho z := fun h => Nat.lt_of_le_of_lt h (by decide)
      obtain ⟨r, z1, z2, rfl, hr2, b1, b2⟩ : ∃ r z1 z2, x = .ref r ∧ H r = some (tp [z1, z2]) ∧ Sho z1 ∧ Sho z2 := by
        have hm := List.mem_of_getElem? hx
        simp only [List.mem_cons, List.not_mem_nil, or_false] at hm
        rcases hm with e | e <;> rw [e]
        · exact ⟨_, _, _, rfl, h2, sh ba, sh bb⟩
        · exact ⟨_, _, _, rfl, h3, sh bc, sh be⟩
      have hr3 := sH _ _ hr2
      refine ⟨_, rfl, .ref r, .ty "tuple", .type "tuple", .type "tuple", true, rfl, .ty "tuple", .base (.tup hr3), kit_ty (show kitB "tuple" "tuple" = some true by decide +kernel), true, rfl, iteF ?_⟩
      refine ⟨_, rfl, r, _, rfl, .inr (SqT.of hr3), rfl, _, rfl, iteF ?_⟩
      refine ⟨_, rfl, r, rfl, ⟨_, SqT.of hr3⟩, fun D hD => lc_tup (xs := [.int z1, .int z2]) (fun i H2 => H2 = upd H' D (.lst (List.replicate i (V.bl true)))) rfl (fun i H2 _ hP => ?_) (fun i x H2 hx hP => ?_) (fun H2 hP => ?_)⟩
      · rw [hP]
        exact SqT.of (same_upd0 hD _ _ hr3)
      · subst hP
        have hi2 : i < 2 := (List.getElem?_eq_some_iff.mp hx).1
        obtain ⟨z, rfl, hz⟩ : ∃ z, x = .int z ∧ Sho z := by
          have hm := List.mem_of_getElem? hx
          simp only [List.mem_cons, List.not_mem_nil, or_false] at hm
          rcases hm with e | e <;> rw [e]
          · exact ⟨_, rfl, b1⟩
          · exact ⟨_, rfl, b2⟩
        refine ⟨rfl, _, rfl, z, rfl, hz, _, upd_same, ?_, ?_⟩
        · rw [List.length_replicate]
          exact small1000 (by omega)
        · rw [upd_upd, List.replicate_succ']
      · subst hP
        refine ⟨D, [true, true], rfl, SqL.of upd_same, true, rfl, ?_⟩
        exact ⟨_, _, rfl, sH.trans (same_upd0 hD)⟩
    · obtain ⟨y2, y3, rfl, sH⟩ := hP
      have hT : Tb H' t [a, b] [c, e] := ⟨r0, r1, sH _ _ h1, sH _ _ h2, sH _ _ h3⟩
      refine ⟨_, rfl, t, a, b, c, e, rfl, hT, ba, bb, bc, be, _, rfl, _, _, rfl, rfl, hp, rfl, ?_⟩
      have e1 : (V.int ((a * e - b * c) % p) = V.int 0) = False := eq_false fun z => hd (V.int.inj z)
      show Q (V.bl (!decide (V.int ((a * e - b * c) % p) = V.int 0))) H'
      rw [decide_eq_false fun z => hd (V.int.inj z)]
      exact q _ sH
def spReqPT : Sp := fun vs H Q _ => ∃ (p : Int) (t : Addr) (a b c e : Int), vs = [.int p, .ref t] ∧ 0 < p ∧ Tb H t [a, b] [c, e] ∧ a.natAbs ≤ 10 ^ 45 ∧ b.natAbs ≤ 10 ^ 45 ∧ c.natAbs ≤ 10 ^ 45 ∧ e.natAbs ≤ 10 ^ 45 ∧ (a * e - b * c) % p ≠ 0 ∧ ∀ H', Same H H' → Q .non H'
theorem ok_require_prime_table (T : Facts K mg) : FnOk P w K mg base CX0 4 T.f_require_prime_table T.fd_require_prime_table ["prime", "value"] spReqPT := by
  have G_is_prime_table := ok_is_prime_table (P := P) (w := w) (base := base) T
  refine T.F_require_prime_table.ok sc_require_prime_table (fun vs H Q E h => ?_) (fun cdv A outer s H vs Q E hr h => ?_)
  · obtain ⟨p, t, a, b, c, e, rfl, _⟩ := h
    rfl
  · obtain ⟨p, t, a, b, c, e, rfl, hp, hT, ba, bb, bc, be, hd, q⟩ := h
    refine ⟨_, (PSs.nox (pss_one (ps_if (pt_not (pt_val (pe_call G_is_prime_table hr (by rfl) T.g_is_prime_table T.F_is_prime_table.kp T.b_is_prime_table .nil pass0 (pa_cons (pv 0) (pa_cons (pv 1) pa_nil)))))
      (pss_one ps_never)
      pss_nil))), ?_⟩
    exact ⟨_, rfl, _, rfl, p, t, a, b, c, e, rfl, hp, hT, ba, bb, bc, be, hd, fun H' s1 => ⟨true, rfl, iteF (q _ s1)⟩⟩
end
end K49

set_option Elab.async false
set_option linter.all false
set_option maxRecDepth 100000
set_option maxHeartbeats 4000000
namespace K49
open PySem PySem.Spec PyProof.Rows L2 StX RZ MyR SlX OwnR OwnF EnumT
/-- a form over a prime field -/
def Fp (C : Addr) (H : Hp) (a : Addr) (p : Int) (ns : List Int) : Prop := ∃ dx t, H a = some (SlO a C dx [some (.ref t), some (.int p)]) ∧ H dx = some (.xd []) ∧ H t = some (tp ns)
theorem Fp.same {C a : Addr} {H H' : Hp} {p : Int} {ns : List Int} (h : Fp C H a p ns) (s : Same H H') : Fp C H' a p ns := by
  obtain ⟨dx, t, h1, h2, h3⟩ := h
  exact ⟨dx, t, s _ _ h1, s _ _ h2, s _ _ h3⟩
theorem Fp.slt {C a : Addr} {H : Hp} {p : Int} {ns : List Int} (h : Fp C H a p ns) : ∃ dx t, Slt H a C dx [some (.ref t), some (.int p)] ∧ H t = some (tp ns) := by
  obtain ⟨dx, t, h1, h2, h3⟩ := h
  exact ⟨dx, t, .inr ⟨h1, h2⟩, h3⟩
section
variable {P : Program} {w : World} {K : PySem.W.Frag} {mg : Str → Option Value} {base : Heap}
def spPForm (C : Addr) : Sp := fun vs H Q _ => ∃ (x dx t : Addr) (p : Int) (ns : List Int), vs = [.ref x, .int p, .ref t] ∧ Slt H x C dx [] ∧ dx ≠ x ∧ t ≠ dx ∧ p ∈ PR ∧ H t = some (tp ns) ∧ 1 ≤ ns.length ∧ ns.length ≤ 13 ∧ (∀ z ∈ ns, Sho z) ∧
  ∀ H1 H3 e, Same H H1 → Same (slH H1 x C dx [none, some (.int p)]) H3 → H3 e = some (tp (md p ns)) → e ≠ x → e ≠ dx → Q .non (slH H3 x C dx [some (.ref e), some (.int p)])
theorem ok_PrimeForm_init (T : Facts K mg) : FnOk P w K mg base CX0 4 T.f_PrimeForm_init T.fd_PrimeForm_init ["self", "prime", "entries"] (spPForm T.C_PrimeForm) := by
  have G_require_prime := ok_require_prime (P := P) (w := w) (base := base) T
  have G_is_short := ok_is_short (P := P) (w := w) (base := base) T
  have G_modulo := ok_modulo (P := P) (w := w) (base := base) T
  refine T.F_PrimeForm_init.ok sc_PrimeForm_init (fun vs H Q E h => ?_) (fun cdv A outer s H vs Q E hr h => ?_)
  · obtain ⟨x, dx, t, p, ns, rfl, _⟩ := h
    rfl
  · obtain ⟨x, dx, t, p, ns, rfl, hx, hne, xd, hp, ht, h1, h13, hs, q⟩ := h
    refine ⟨_, (PSs.nox (pss_cons (ps_expr (pe_call G_require_prime hr (by rfl) T.g_require_prime T.F_require_prime.kp T.b_require_prime .nil pass0 (pa_cons (pv 1) pa_nil)))
    (pss_cons (ps_if (pw_or (pt_not (pt_val (pe_callB call_isi (by rfl) T.z_isinstance (by decide +kernel) (pa_cons (pv 2) (pa_cons (pe_bltn (v := .ty "tuple") (by rfl) T.z_tuple (by decide +kernel) rfl) pa_nil))))) (pw_or1 (pt_not (pt_chain op_le op_le pe_int (pe_callB call_len_seq (by rfl) T.z_len (by decide +kernel) (pa_cons (pv 2) pa_nil)) (pe_op op_add (pe_glob (v := .int 12) (by rfl) T.c_MOST_DEGREE.choose_spec ⟨_, rfl⟩) pe_int))))).pt
      (pss_one ps_never)
      pss_nil)
    (pss_cons (ps_if (pt_not (pt_val (pe_callB (cr_all (by rfl)) (by rfl) T.z_all (by decide +kernel) (pa_cons (pe_lc (own := [("entry", 3)]) (g := (gName 3)) (tt := tYes) (by rfl) sc_PrimeForm_init.nd (pi_tup (pv 2)) (blkOk_by (N := N_PrimeForm_init) (sc := defScope s_PrimeForm_init) (by decide +kernel)) (fun _ _ _ _ _ => (pg_name (i := 3) sc_PrimeForm_init.nd rfl (.inl rfl))) (fun _ _ _ _ _ => pts_nil) (fun _ _ _ _ _ => (pe_call G_is_short (hr.mono (by decide)) (by rfl) T.g_is_short T.F_is_short.kp T.b_is_short .nil pass0 (pa_cons (pv 3) pa_nil)))) pa_nil))))
      (pss_one ps_never)
      pss_nil)
    (pss_cons (ps_sl (pv 0) (pv 1))
    (pss_one (ps_sl (pv 0) (pe_call G_modulo (hr.mono (by decide)) (by rfl) T.g_modulo T.F_modulo.kp T.b_modulo .nil pass0 (pa_cons (pv 1) (pa_cons (pv 2) pa_nil)))))))))), ?_⟩
    obtain ⟨p1, p2⟩ := pr_bd hp
    refine ⟨_, rfl, p, rfl, hp, ?_⟩
    refine ⟨_, rfl, .ref t, .ty "tuple", .type "tuple", .type "tuple", true, rfl, .ty "tuple", .base (.tup ht), kit_ty (show kitB "tuple" "tuple" = some true by decide +kernel), true, rfl, iteF ?_⟩
    refine ⟨_, rfl, t, _, rfl, .inr (SqT.of ht), 1, _, rfl, rfl, true, ?_, iteT ⟨_, _, rfl, rfl, _, _, rfl, rfl, true, ?_, iteF ?_⟩⟩
    · rw [List.length_map]
      show V.bl (decide ((1 : Int) ≤ (ns.length : Int))) = V.bl true
      rw [decide_eq_true (by omega)]
    · rw [List.length_map]
      show V.bl (decide ((ns.length : Int) ≤ 12 + 1)) = V.bl true
      rw [decide_eq_true (by omega)]
    refine ⟨_, rfl, t, rfl, ⟨_, SqT.of ht⟩, fun D hD => lc_tup (xs := ns.map V.int) (fun i H2 => H2 = upd H D (.lst (List.replicate i (V.bl true)))) rfl (fun i H2 _ hP => ?_) (fun i z H2 hz hP => ?_) (fun H2 hP => ?_)⟩
    · rw [hP]
      exact SqT.of (same_upd0 hD _ _ ht)
    · subst hP
      obtain ⟨hi, rfl⟩ := int_get hz
      refine ⟨rfl, _, rfl, co ns i, rfl, ?_, _, upd_same, ?_, ?_⟩
      · rw [co_get hi]
        exact hs _ (List.getElem_mem hi)
      · rw [List.length_replicate]
        exact small1000 (by omega)
      · rw [upd_upd, List.replicate_succ']
    · subst hP
      refine ⟨D, List.replicate (ns.map V.int).length true, ?_, SqL.of ?_, ?_⟩
      · rfl
      · rw [upd_same, List.map_replicate]
      · refine ⟨true, by rw [show (List.replicate (ns.map V.int).length true).all id = true by simp], iteF ?_⟩
        have s1 := same_upd0 (o := .lst (List.replicate (ns.map V.int).length (V.bl true))) hD
        generalize upd H D (.lst (List.replicate (ns.map V.int).length (V.bl true))) = H1 at s1
        have hx1 := Slt.same hx s1
        have xt : t ≠ x := fun z => by
          rcases hx with ⟨e1, _⟩ | ⟨e1, _⟩ <;> rw [z, e1] at ht <;> cases ht
        refine ⟨_, rfl, _, rfl, x, T.C_PrimeForm, dx, T.a_own_prime, [], 1, rfl, hx1, T.oc_PrimeForm.scl, T.sl_own_prime, ?_⟩
        have ht2 : slH H1 x T.C_PrimeForm dx [none, some (.int p)] t = some (tp ns) := by
          rw [slH_ne xt xd]
          exact s1 _ _ ht
        refine ⟨_, rfl, _, rfl, p, t, ns, rfl, by omega, ht2, by omega, fun e H3 s3 ne h3 => ⟨_, rfl, x, T.C_PrimeForm, dx, T.a_PrimeForm_own_entries, [none, some (.int p)], 0, rfl, ?_, T.oc_PrimeForm.scl, T.sl_PrimeForm_own_entries, ?_⟩⟩
        · exact Slt.same (slH_slt hne) s3
        · have f1 : slH H1 x T.C_PrimeForm dx [none, some (.int p)] x = some (SlO x T.C_PrimeForm dx [none, some (.int p)]) := upd_same
          have f2 : slH H1 x T.C_PrimeForm dx [none, some (.int p)] dx = some (.xd []) := by
            unfold slH
            rw [upd_ne hne, upd_same]
          exact q H1 H3 e s1 s3 h3 (ne_of_none f1 ne).symm (ne_of_none f2 ne).symm
/-- PrimeForm(p, l) -/
theorem mkP {C x dx t : Addr} {H : Hp} {p : Int} {l : List Int} {R : Hp → Prop} (hx : H x = none) (hdx : H dx = none) (hne : dx ≠ x) (ht : H t = some (tp l)) (hp : p ∈ PR) (h1 : 1 ≤ l.length) (h2 : l.length ≤ 13) (hs : ∀ z ∈ l, Sho z) (q : ∀ H', Same H H' → Fp C H' x p (md p l) → R H') :
    spPForm C [.ref x, .int p, .ref t] (upd (upd H dx (.own x)) x (.ins C dx [])) (fun v H2 => v = .non ∧ R H2) E0 := by
  refine ⟨x, dx, t, p, l, rfl, .inl ⟨upd_same, rfl⟩, hne, ne_of_none ht hdx, hp, ?_, h1, h2, hs, fun H1 H3 e s1 s3 h3 ex ed => ⟨rfl, q _ (fun b o eb => ?_) ⟨dx, e, upd_same, ?_, ?_⟩⟩⟩
  · rw [upd_ne (ne_of_none ht hx), upd_ne (ne_of_none ht hdx)]
    exact ht
  · have b1 : b ≠ x := ne_of_none eb hx
    have b2 : b ≠ dx := ne_of_none eb hdx
    rw [slH_ne b1 b2]
    refine s3 _ _ ?_
    rw [slH_ne b1 b2]
    refine s1 _ _ ?_
    rw [upd_ne b1, upd_ne b2]
    exact eb
  · unfold slH
    rw [upd_ne hne, upd_same]
  · rw [slH_ne ex ed]
    exact h3
/-! ### properties, equality -/
def spPEnt (C : Addr) : Sp := fun vs H Q _ => ∃ (a : Addr) (p : Int) (ns : List Int), vs = [.ref a] ∧ Fp C H a p ns ∧ ∀ t, H t = some (tp ns) → Q (.ref t) H
theorem ok_PrimeForm_entries (T : Facts K mg) : FnOk P w K mg base CX0 1 T.f_PrimeForm_entries T.fd_PrimeForm_entries ["self"] (spPEnt T.C_PrimeForm) := by
  refine T.F_PrimeForm_entries.ok sc_PrimeForm_entries (fun vs H Q E h => ?_) (fun cdv A outer s H vs Q E hr h => ?_)
  · obtain ⟨a, p, ns, rfl, _⟩ := h
    rfl
  · obtain ⟨a, p, ns, rfl, fa, q⟩ := h
    obtain ⟨dx, t, ha, ht⟩ := fa.slt
    refine ⟨_, (PSs.nox (pss_one (ps_ret (pe_sl (pv 0))))), ?_⟩
    exact ⟨_, rfl, a, T.C_PrimeForm, dx, T.a_PrimeForm_own_entries, _, 0, .ref t, rfl, ha, T.oc_PrimeForm.scl, T.sl_PrimeForm_own_entries, rfl, q t ht⟩
def spPDeg (C : Addr) : Sp := fun vs H Q _ => ∃ (a : Addr) (p : Int) (ns : List Int), vs = [.ref a] ∧ Fp C H a p ns ∧ Q (.int ((ns.length : Nat) - 1)) H
theorem ok_PrimeForm_degree (T : Facts K mg) : FnOk P w K mg base CX0 1 T.f_PrimeForm_degree T.fd_PrimeForm_degree ["self"] (spPDeg T.C_PrimeForm) := by
  refine T.F_PrimeForm_degree.ok sc_PrimeForm_degree (fun vs H Q E h => ?_) (fun cdv A outer s H vs Q E hr h => ?_)
  · obtain ⟨a, p, ns, rfl, _⟩ := h
    rfl
  · obtain ⟨a, p, ns, rfl, fa, q⟩ := h
    obtain ⟨dx, t, ha, ht⟩ := fa.slt
    refine ⟨_, (PSs.nox (pss_one (ps_ret (pe_op op_sub (pe_callB call_len_seq (by rfl) T.z_len (by decide +kernel) (pa_cons (pe_sl (pv 0)) pa_nil)) pe_int)))), ?_⟩
    refine ⟨_, rfl, a, T.C_PrimeForm, dx, T.a_PrimeForm_own_entries, _, 0, .ref t, rfl, ha, T.oc_PrimeForm.scl, T.sl_PrimeForm_own_entries, rfl, t, _, rfl, .inr (SqT.of ht), _, _, rfl, rfl, ?_⟩
    rw [List.length_map]
    exact q
def spPZero (C : Addr) : Sp := fun vs H Q _ => ∃ (a : Addr) (p : Int) (ns : List Int), vs = [.ref a] ∧ Fp C H a p ns ∧ Q (.bl (!ns.any (· != 0))) H
theorem ok_PrimeForm_is_zero (T : Facts K mg) : FnOk P w K mg base CX0 1 T.f_PrimeForm_is_zero T.fd_PrimeForm_is_zero ["self"] (spPZero T.C_PrimeForm) := by
  refine T.F_PrimeForm_is_zero.ok sc_PrimeForm_is_zero (fun vs H Q E h => ?_) (fun cdv A outer s H vs Q E hr h => ?_)
  · obtain ⟨a, p, ns, rfl, _⟩ := h
    rfl
  · obtain ⟨a, p, ns, rfl, fa, q⟩ := h
    obtain ⟨dx, t, ha, ht⟩ := fa.slt
    refine ⟨_, (PSs.nox (pss_one (ps_ret (pe_not (pe_callB (cr_anyTI (by rfl)) (by rfl) T.z_any (by decide +kernel) (pa_cons (pe_sl (pv 0)) pa_nil)))))), ?_⟩
    refine ⟨_, rfl, a, T.C_PrimeForm, dx, T.a_PrimeForm_own_entries, _, 0, .ref t, rfl, ha, T.oc_PrimeForm.scl, T.sl_PrimeForm_own_entries, rfl, ?_⟩
    exact ⟨t, ns, rfl, SqT.of ht, _, rfl, q⟩
end
end K49

set_option Elab.async false
set_option linter.all false
set_option maxRecDepth 100000
set_option maxHeartbeats 4000000
namespace K49
open PySem PySem.Spec PyProof.Rows L2 StX RZ MyR SlX OwnR OwnF EnumT
theorem prop_pent {C a : Addr} {H : Hp} {p : Int} {xs : List Int} {Q : VK} (fa : Fp C H a p xs) (q : ∀ t, H t = some (tp xs) → Q (.ref t) H) : ∃ a' dx vs, V.ref a = .ref a' ∧ Slt H a' C dx vs ∧ spPEnt C [.ref a'] H Q E0 := by
  obtain ⟨dx, t, ha, ht⟩ := fa.slt
  exact ⟨a, dx, _, rfl, ha, a, p, xs, rfl, fa, q⟩
theorem prop_pdeg {C a : Addr} {H : Hp} {p : Int} {xs : List Int} {Q : VK} (fa : Fp C H a p xs) (q : Q (.int ((xs.length : Nat) - 1)) H) : ∃ a' dx vs, V.ref a = .ref a' ∧ Slt H a' C dx vs ∧ spPDeg C [.ref a'] H Q E0 := by
  obtain ⟨dx, t, ha, ht⟩ := fa.slt
  exact ⟨a, dx, _, rfl, ha, a, p, xs, rfl, fa, q⟩
theorem prop_pzero {C a : Addr} {H : Hp} {p : Int} {xs : List Int} {Q : VK} (fa : Fp C H a p xs) (q : Q (.bl (!xs.any (· != 0))) H) : ∃ a' dx vs, V.ref a = .ref a' ∧ Slt H a' C dx vs ∧ spPZero C [.ref a'] H Q E0 := by
  obtain ⟨dx, t, ha, ht⟩ := fa.slt
  exact ⟨a, dx, _, rfl, ha, a, p, xs, rfl, fa, q⟩
theorem sho_md {p : Int} (hp : p ∈ PR) {l : List Int} : ∀ z ∈ md p l, Sho z := fun z hz => by
  obtain ⟨p1, p2⟩ := pr_bd hp
  obtain ⟨h1, h2⟩ := md_nonneg (p := p) (by omega) z hz
  exact Nat.lt_of_le_of_lt (show z.natAbs ≤ 101 by omega) (by decide)
section
variable {P : Program} {w : World} {K : PySem.W.Frag} {mg : Str → Option Value} {base : Heap}
end
end K49

set_option Elab.async false
set_option linter.all false
set_option maxRecDepth 100000
set_option maxHeartbeats 4000000
namespace K49
open PySem PySem.Spec PyProof.Rows L2 StX RZ MyR SlX OwnR OwnF EnumT
/-- rows so far in the list at D -/
def Bl (H : Hp) (D : Addr) (φ : Nat → List Int) (i : Nat) : Prop := ∃ rs : List Addr, H D = some (.lst (rs.map V.ref)) ∧ rs.length = i ∧ ∀ k (hk : k < rs.length), H rs[k] = some (tp (φ k))
theorem Bl.nil {H : Hp} {D : Addr} {φ : Nat → List Int} : Bl (upd H D (.lst [])) D φ 0 := ⟨[], upd_same, rfl, fun k hk => absurd hk (Nat.not_lt_zero k)⟩
theorem Bl.step {Hs H H2 : Hp} {D p : Addr} {φ : Nat → List Int} {i : Nat} (hP : Same Hs H ∧ Bl H D φ i) (hD : Hs D = none) (s : Same H H2) (hp : H2 p = some (tp (φ i))) (hi : i + 1 ≤ 1000) :
    ∃ acc, H2 D = some (.lst acc) ∧ acc.length < sizeLine ∧ (Same Hs (upd H2 D (.lst (acc ++ [.ref p]))) ∧ Bl (upd H2 D (.lst (acc ++ [.ref p]))) D φ (i + 1)) := by
  obtain ⟨sH, rs, hL, lr, hrow⟩ := hP
  have hL2 := s _ _ hL
  refine ⟨_, hL2, by rw [List.length_map, lr]; exact small1000 (by omega), fun d o e => ?_, rs ++ [p], by rw [upd_same, List.map_append]; rfl, by rw [List.length_append, lr]; rfl, fun k hk => ?_⟩
  · rw [upd_ne (ne_of_none e hD)]
    exact s _ _ (sH _ _ e)
  · by_cases c : k < rs.length
    · rw [show (rs ++ [p])[k] = rs[k] from List.getElem_append_left _]
      have e0 := s _ _ (hrow k c)
      rw [upd_ne (fun z => by rw [z, hL2] at e0; cases e0)]
      exact e0
    · have ek : k = rs.length := by rw [List.length_append] at hk; simp at hk; omega
      subst ek
      rw [show (rs ++ [p])[rs.length] = p by rw [List.getElem_append_right (Nat.le_refl _)]; simp, upd_ne (fun z => by rw [z, hL2] at hp; cases hp), hp, lr]
theorem rw_md {p : Int} (hp : p ∈ PR) {l : List Int} (h0 : l ≠ []) (hl : l.length ≤ 100) : Rw (md p l) := ⟨fun e => h0 (List.map_eq_nil_iff.mp e), by rw [md_len]; exact hl, fun z hz => by
  obtain ⟨p1, p2⟩ := pr_bd hp
  obtain ⟨h1, h2⟩ := md_nonneg (p := p) (by omega) z hz
  exact sm_le (n := 101) (show z.natAbs ≤ 101 by omega) (by decide)⟩
theorem bd_md {p : Int} (hp : p ∈ PR) {l : List Int} {n : Nat} (h : l.length = n + 1) : Bd (md p l) n ((n + 1) * 101) := ⟨by rw [md_len, h], by
  obtain ⟨p1, p2⟩ := pr_bd hp
  have := nm_le (b := 101) (l := md p l) fun z hz => by
    obtain ⟨h1, h2⟩ := md_nonneg (p := p) (by omega) z hz
    omega
  rw [md_len, h] at this
  exact this⟩
theorem two_lt {i : Nat} (h : i < 4000) : 2 ^ i < 2 ^ 4000 := Nat.pow_lt_pow_right (by decide) h
theorem chOk_md {p : Int} (hp : p ∈ PR) {X Y l : List Int} (hX : X.length = 2) (hY : Y.length = 2) (h1 : 1 ≤ l.length) (h2 : l.length ≤ 13) : ChOk (md p X) (md p Y) (md p l).tail [co (md p l) 0] [1] := by
  obtain ⟨n, hn⟩ : ∃ n, l.length = n + 1 := ⟨l.length - 1, by omega⟩
  refine changed_ok (n := n) (b := 256) (B := 2 ^ 20) (by decide) ((bd_md hp hX).mono (by decide)) ((bd_md hp hY).mono (by decide)) ((bd_md hp hn).mono ?_) (by omega) ?_
  · have : (n + 1) * 101 ≤ 13 * 101 := Nat.mul_le_mul (by omega) (by decide)
    exact Nat.le_trans this (by decide)
  · refine Nat.lt_of_le_of_lt (Nat.mul_le_mul (Nat.le_refl _) (Nat.pow_le_pow_right (by decide) (show n ≤ 12 by omega))) ?_
    exact Nat.lt_of_le_of_lt (show (2 ^ 20 + 1) * 256 ^ 12 ≤ 2 ^ 120 by decide) (two_lt (by decide))
section
variable {P : Program} {w : World} {K : PySem.W.Frag} {mg : Str → Option Value} {base : Heap}
/-- changed forms: the row is taken modulo p -/
def spChM (C : Addr) : Sp := fun vs H Q _ => ∃ (a t : Addr) (p : Int) (l : List Int) (a1 b1 c1 e1 : Int), vs = [.ref a, .ref t] ∧ Fp C H a p (md p l) ∧ p ∈ PR ∧ Tb H t [a1, b1] [c1, e1] ∧ 1 ≤ l.length ∧ l.length ≤ 13 ∧ ∀ q H', Same H H' → Fp C H' q p (md p (changed (md p [a1, b1]) (md p [c1, e1]) (md p l))) → Q (.ref q) H'
theorem ok_changed_modulo (T : Facts K mg) : FnOk P w K mg base CX0 6 T.f_changed_modulo T.fd_changed_modulo ["form", "table"] (spChM T.C_PrimeForm) := by
  have G_changed_in := ok_changed_in (P := P) (w := w) (base := base) T
  have G_modulo := ok_modulo (P := P) (w := w) (base := base) T
  have G_PrimeForm_init := ok_PrimeForm_init (P := P) (w := w) (base := base) T
  refine T.F_changed_modulo.ok sc_changed_modulo (fun vs H Q E h => ?_) (fun cdv A outer s H vs Q E hr h => ?_)
  · obtain ⟨a, t, p, l, a1, b1, c1, e1, rfl, _⟩ := h
    rfl
  · obtain ⟨a, t, p, l, a1, b1, c1, e1, rfl, fa, hp, ⟨r0, r1, h1, h2, h3⟩, l1, l13, q⟩ := h
    refine ⟨_, (PSs.nox (pss_cons (ps_set (i := 2) sc_changed_modulo.nd rfl (.inl rfl) (pe_tupleOf (by rfl) T.z_tuple (pe_lc (own := [("row", 3)]) (g := (gName 3)) (tt := tYes) (by rfl) sc_changed_modulo.nd (pi_tup (pv 1)) (blkOk_by (N := N_changed_modulo) (sc := defScope s_changed_modulo) (by decide +kernel)) (fun _ _ _ _ _ => (pg_name (i := 3) sc_changed_modulo.nd rfl (.inl rfl))) (fun _ _ _ _ _ => pts_nil) (fun _ _ _ _ _ => (pe_call G_modulo (hr.mono (by decide)) (by rfl) T.g_modulo T.F_modulo.kp T.b_modulo .nil pass0 (pa_cons (SlotK.pe_slK (K := K) (by rfl) (pv 0)) (pa_cons (pv 3) pa_nil)))))))
    (pss_one (ps_ret (pe_make T.mk_PrimeForm G_PrimeForm_init (hr.mono (by decide)) (by rfl) T.g_PrimeForm T.b_PrimeForm_init .nil pass0 (pa_cons (pe_sl (pv 0)) (pa_cons (pe_call G_modulo (hr.mono (by decide)) (by rfl) T.g_modulo T.F_modulo.kp T.b_modulo .nil pass0 (pa_cons (pe_sl (pv 0)) (pa_cons (pe_call G_changed_in (hr.mono (by decide)) (by rfl) T.g_changed_in T.F_changed_in.kp T.b_changed_in .nil pass0 (pa_cons (pe_sl (pv 0)) (pa_cons (pv 2) pa_nil))) pa_nil))) pa_nil))))))), ?_⟩
    obtain ⟨p1, p2⟩ := pr_bd hp
    refine ⟨_, rfl, t, rfl, ⟨_, SqT.of h1⟩, fun D hD => lc_tup (xs := [.ref r0, .ref r1]) (fun i H' => Same H H' ∧ Bl H' D (fun k => md p (if k = 0 then [a1, b1] else [c1, e1])) i) ⟨same_upd0 hD, Bl.nil⟩ (fun i H' _ hP => SqT.of (hP.1 _ _ h1)) (fun i x H' hx hP => ?_) (fun H' hP => ?_)⟩
    · have hi2 : i < 2 := (List.getElem?_eq_some_iff.mp hx).1
      have sH := hP.1
      obtain ⟨r, rfl, hr2⟩ : ∃ r, x = .ref r ∧ H r = some (tp (if i = 0 then [a1, b1] else [c1, e1])) := by
        match i, hi2, hx with
        | 0, _, hx => cases hx; exact ⟨_, rfl, h2⟩
        | 1, _, hx => cases hx; exact ⟨_, rfl, h3⟩
      obtain ⟨dx, u, ha, hu⟩ := (fa.same sH).slt
      refine ⟨rfl, _, rfl, a, T.C_PrimeForm, dx, T.a_own_prime, _, 1, .int p, rfl, ha, T.oc_PrimeForm.scl, T.sl_own_prime, rfl, _, rfl, p, r, _, rfl, by omega, sH _ _ hr2, by split <;> exact (by decide : 2 ≤ 100), fun q1 H2 s2 n2 h4 => Bl.step hP hD s2 h4 (by omega)⟩
    · obtain ⟨sH, rs, hL, lr, hrow⟩ := hP
      obtain ⟨u0, u1, rfl⟩ : ∃ u0 u1, rs = [u0, u1] := by
        match rs, lr with
        | [u0, u1], _ => exact ⟨u0, u1, rfl⟩
      have k0 : H' u0 = some (tp (md p [a1, b1])) := hrow 0 (by simp)
      have k1 : H' u1 = some (tp (md p [c1, e1])) := hrow 1 (by simp)
      refine .inl ⟨D, _, rfl, SqL.of hL, fun p2 hp2 => gen_upd H' p2 (.tup [.ref u0, .ref u1]) hp2 fun H3 s3 h4 => ?_⟩
      have s13 := sH.trans s3
      obtain ⟨dx, u, ha, hu⟩ := (fa.same s13).slt
      have hT : Tb H3 p2 (md p [a1, b1]) (md p [c1, e1]) := ⟨u0, u1, h4, s3 _ _ k0, s3 _ _ k1⟩
      have n0 : l ≠ [] := ne_of2 l1
      refine ⟨_, rfl, a, T.C_PrimeForm, dx, T.a_own_prime, _, 1, .int p, rfl, ha, T.oc_PrimeForm.scl, T.sl_own_prime, rfl, _, rfl, a, T.C_PrimeForm, dx, T.a_own_prime, _, 1, .int p, rfl, ha, T.oc_PrimeForm.scl, T.sl_own_prime, rfl, _, rfl, a, T.C_PrimeForm, dx, T.a_PrimeForm_own_entries, _, 0, .ref u, rfl, ha, T.oc_PrimeForm.scl, T.sl_PrimeForm_own_entries, rfl, _, rfl, u, p2, md p l, md p [a1, b1], md p [c1, e1], rfl, hu, hT, (rw_md hp n0 (by omega)).ne, by rw [md_len]; omega, rfl, rfl, rw_md hp (by simp) (by simp), rw_md hp (by simp) (by simp), chOk_md hp rfl rfl l1 l13, fun q1 H4 s4 h5 => ?_⟩
      have lc : (changed (md p [a1, b1]) (md p [c1, e1]) (md p l)).length = l.length := by rw [changed_len rfl rfl (rw_md hp n0 (by omega)).ne, md_len]
      refine ⟨p, q1, _, rfl, by omega, h5, by omega, fun q2 H5 s5 n5 h6 => fun x dx x1 x2 x3 => mkP x1 x2 x3 h6 hp (by rw [md_len]; omega) (by rw [md_len]; omega) (sho_md hp) fun H6 s6 f6 => ?_⟩
      rw [md_md] at f6
      exact q x H6 (s13.trans (s4.trans (s5.trans s6))) f6
def spPChanged (C : Addr) : Sp := fun vs H Q _ => ∃ (a t : Addr) (p : Int) (l : List Int) (a1 b1 c1 e1 : Int), vs = [.ref a, .ref t] ∧ Fp C H a p (md p l) ∧ p ∈ PR ∧ Tb H t [a1, b1] [c1, e1] ∧ a1.natAbs ≤ 10 ^ 45 ∧ b1.natAbs ≤ 10 ^ 45 ∧ c1.natAbs ≤ 10 ^ 45 ∧ e1.natAbs ≤ 10 ^ 45 ∧ (a1 * e1 - b1 * c1) % p ≠ 0 ∧ 1 ≤ l.length ∧ l.length ≤ 13 ∧ ∀ q H', Same H H' → Fp C H' q p (md p (changed (md p [a1, b1]) (md p [c1, e1]) (md p l))) → Q (.ref q) H'
theorem ok_PrimeForm_changed (T : Facts K mg) : FnOk P w K mg base CX0 7 T.f_PrimeForm_changed T.fd_PrimeForm_changed ["self", "table"] (spPChanged T.C_PrimeForm) := by
  have G_require_prime_table := ok_require_prime_table (P := P) (w := w) (base := base) T
  have G_changed_modulo := ok_changed_modulo (P := P) (w := w) (base := base) T
  refine T.F_PrimeForm_changed.ok sc_PrimeForm_changed (fun vs H Q E h => ?_) (fun cdv A outer s H vs Q E hr h => ?_)
  · obtain ⟨a, t, p, l, a1, b1, c1, e1, rfl, _⟩ := h
    rfl
  · obtain ⟨a, t, p, l, a1, b1, c1, e1, rfl, fa, hp, hT, ba, bb, bc, be, hd, l1, l13, q⟩ := h
    refine ⟨_, (PSs.nox (pss_cons (ps_expr (pe_call G_require_prime_table (hr.mono (by decide)) (by rfl) T.g_require_prime_table T.F_require_prime_table.kp T.b_require_prime_table .nil pass0 (pa_cons (pe_sl (pv 0)) (pa_cons (pv 1) pa_nil))))
    (pss_one (ps_ret (pe_call G_changed_modulo hr (by rfl) T.g_changed_modulo T.F_changed_modulo.kp T.b_changed_modulo .nil pass0 (pa_cons (pv 0) (pa_cons (pv 1) pa_nil))))))), ?_⟩
    obtain ⟨p1, p2⟩ := pr_bd hp
    obtain ⟨dx, u, ha, hu⟩ := fa.slt
    refine ⟨_, rfl, a, T.C_PrimeForm, dx, T.a_own_prime, _, 1, .int p, rfl, ha, T.oc_PrimeForm.scl, T.sl_own_prime, rfl, _, rfl, p, t, a1, b1, c1, e1, rfl, by omega, hT, ba, bb, bc, be, hd, fun H1 s1 => ?_⟩
    exact ⟨_, rfl, _, rfl, a, t, p, l, a1, b1, c1, e1, rfl, fa.same s1, hp, hT.same s1, l1, l13, fun q1 H2 s2 f2 => q q1 H2 (s1.trans s2) f2⟩
end
end K49

set_option Elab.async false
set_option linter.all false
set_option maxRecDepth 100000
set_option maxHeartbeats 4000000
namespace K49
open PySem PySem.Spec PyProof.Rows L2 StX RZ MyR SlX OwnR OwnF EnumT
theorem w45 {x : Int} (h : x.natAbs ≤ 10 ^ 20) : x.natAbs ≤ 10 ^ 45 := Nat.le_trans h (by decide)
section
variable {P : Program} {w : World} {K : PySem.W.Frag} {mg : Str → Option Value} {base : Heap}
def spReqForm (C : Addr) : Sp := fun vs H Q _ => ∃ (a : Addr) (l : List Int), vs = [.ref a] ∧ Fo C H a l ∧ Q .non H
theorem ok_require_form (T : Facts K mg) : FnOk P w K mg base CX0 1 T.f_require_form T.fd_require_form ["value"] (spReqForm T.C_Form) := by
  refine T.F_require_form.ok sc_require_form (fun vs H Q E h => ?_) (fun cdv A outer s H vs Q E hr h => ?_)
  · obtain ⟨a, l, rfl, _⟩ := h
    rfl
  · obtain ⟨a, l, rfl, fa, q⟩ := h
    obtain ⟨dx, t, ha, ht⟩ := fa.slt
    refine ⟨_, (PSs.nox (pss_one (ps_if (pt_not (pt_val (pe_callB (call_isiF T.C_Form) (by rfl) T.z_isinstance (by decide +kernel) (pa_cons (pv 0) (pa_cons (pe_glob (v := .ref T.C_Form) (by rfl) T.g_Form rfl) pa_nil)))))
      (pss_one ps_never)
      pss_nil))), ?_⟩
    exact ⟨_, rfl, isi_form (X := (cxOf CX0 P w K mg base N_require_form (Str.ofString "require_form") (defScope s_require_form) T.f_require_form cdv A outer s H E).nox) T.oc_Form ha ⟨true, rfl, iteF q⟩⟩
def spOfForm (CF C : Addr) : Sp := fun vs H Q _ => ∃ (a : Addr) (p : Int) (l : List Int), vs = [.ref C, .ref a, .int p] ∧ Fo CF H a l ∧ p ∈ PR ∧ 1 ≤ l.length ∧ l.length ≤ 13 ∧ ∀ q H', Same H H' → Fp C H' q p (md p l) → Q (.ref q) H'
theorem ok_PrimeForm_of_form (T : Facts K mg) : FnOk P w K mg base CX0 6 T.f_PrimeForm_of_form T.fd_PrimeForm_of_form ["cls", "form", "prime"] (spOfForm T.C_Form T.C_PrimeForm) := by
  have G_require_form := ok_require_form (P := P) (w := w) (base := base) T
  have G_require_prime := ok_require_prime (P := P) (w := w) (base := base) T
  have G_modulo := ok_modulo (P := P) (w := w) (base := base) T
  have G_Form_degree : FnOk P w K mg base CX0 1 T.f_Form_degree T.fd_Form_degree ["self"] (spDeg T.C_Form) := ok_Form_degree T
  have G_Form_entries : FnOk P w K mg base CX0 1 T.f_Form_entries T.fd_Form_entries ["self"] (spEnt T.C_Form) := ok_Form_entries T
  have G_PrimeForm_init := ok_PrimeForm_init (P := P) (w := w) (base := base) T
  refine T.F_PrimeForm_of_form.ok sc_PrimeForm_of_form (fun vs H Q E h => ?_) (fun cdv A outer s H vs Q E hr h => ?_)
  · obtain ⟨a, p, l, rfl, _⟩ := h
    rfl
  · obtain ⟨a, p, l, rfl, fa, hp, l1, l13, q⟩ := h
    obtain ⟨p1, p2⟩ := pr_bd hp
    refine ⟨_, (PSs.nox (pss_cons (ps_expr (pe_call G_require_form (hr.mono (by decide)) (by rfl) T.g_require_form T.F_require_form.kp T.b_require_form .nil pass0 (pa_cons (pv 1) pa_nil)))
    (pss_cons (ps_expr (pe_call G_require_prime (hr.mono (by decide)) (by rfl) T.g_require_prime T.F_require_prime.kp T.b_require_prime .nil pass0 (pa_cons (pv 2) pa_nil)))
    (pss_cons (ps_if (pt_cmpR op_gt (pe_prp (pv 1) T.oc_Form T.pr_Form_degree G_Form_degree T.b_Form_degree (hr.mono (by decide))) (pe_glob (v := .int 12) (by rfl) T.c_MOST_DEGREE.choose_spec ⟨_, rfl⟩) (nomark _))
      (pss_one ps_never)
      pss_nil)
    (pss_one (ps_ret (OwnC.pe_makeV (i := 0) T.mk_PrimeForm G_PrimeForm_init (hr.mono (by decide)) T.b_PrimeForm_init rfl (by first | exact Or.inl rfl | exact Or.inr (Or.inl rfl) | exact Or.inr (Or.inr rfl)) (pa_cons (pv 2) (pa_cons (pe_call G_modulo (hr.mono (by decide)) (by rfl) T.g_modulo T.F_modulo.kp T.b_modulo .nil pass0 (pa_cons (pv 2) (pa_cons (pe_prp (pv 1) T.oc_Form T.pr_Form_entries G_Form_entries T.b_Form_entries (hr.mono (by decide))) pa_nil))) pa_nil))))))))), ?_⟩
    refine ⟨_, rfl, a, l, rfl, fa, _, rfl, p, rfl, hp, _, rfl, prop_deg fa ⟨_, _, rfl, rfl, _, rfl, ?_⟩⟩
    rw [decide_eq_false (show ¬ (12 : Int) < (l.length : Int) - 1 by omega)]
    refine iteF ⟨rfl, _, rfl, _, rfl, _, rfl, prop_ent fa fun t ht => ⟨p, t, l, rfl, by omega, ht, by omega, fun q1 H1 s1 n1 h1 => fun x dx x1 x2 x3 => mkP x1 x2 x3 h1 hp (by rw [md_len]; omega) (by rw [md_len]; omega) (sho_md hp) fun H2 s2 f2 => ?_⟩⟩
    rw [md_md] at f2
    exact q x H2 (s1.trans s2) f2
def spPMul (C : Addr) : Sp := fun vs H Q _ => ∃ (a b : Addr) (p : Int) (f g : List Int), vs = [.ref a, .ref b] ∧ Fp C H a p f ∧ Fp C H b p g ∧ p ∈ PR ∧ Rw f ∧ Rw g ∧ f.length + g.length ≤ 14 ∧ ∀ q H', Same H H' → Fp C H' q p (md p (ml f g)) → Q (.ref q) H'
theorem ok_PrimeForm_mul (T : Facts K mg) : FnOk P w K mg base CX0 6 T.f_PrimeForm_mul T.fd_PrimeForm_mul ["self", "other"] (spPMul T.C_PrimeForm) := by
  have G_modulo := ok_modulo (P := P) (w := w) (base := base) T
  have G_product_in := ok_product_in (P := P) (w := w) (base := base) T
  have G_PrimeForm_init := ok_PrimeForm_init (P := P) (w := w) (base := base) T
  have G_PrimeForm_degree := ok_PrimeForm_degree (P := P) (w := w) (base := base) T
  refine T.F_PrimeForm_mul.ok sc_PrimeForm_mul (fun vs H Q E h => ?_) (fun cdv A outer s H vs Q E hr h => ?_)
  · obtain ⟨a, b, p, f, g, rfl, _⟩ := h
    rfl
  · obtain ⟨a, b, p, f, g, rfl, fa, fb, hp, rf, rg, hl, q⟩ := h
    obtain ⟨p1, p2⟩ := pr_bd hp
    obtain ⟨dx, u, ha, hu⟩ := fa.slt
    obtain ⟨dy, v, hb, hv⟩ := fb.slt
    have lf := List.length_pos_iff.mpr rf.ne
    have lg := List.length_pos_iff.mpr rg.ne
    refine ⟨_, (PSs.nox (pss_cons (ps_if (pt_not (pt_val (pe_callB (call_isiF T.C_PrimeForm) (by rfl) T.z_isinstance (by decide +kernel) (pa_cons (pv 1) (pa_cons (pe_glob (v := .ref T.C_PrimeForm) (by rfl) T.g_PrimeForm rfl) pa_nil)))))
      (pss_one ps_never)
      pss_nil)
    (pss_cons (ps_if (pt_cmpR op_ne (pe_sl (pv 1)) (pe_sl (pv 0)) (nomark _))
      (pss_one ps_never)
      pss_nil)
    (pss_cons (ps_if (pt_cmpR op_gt (pe_op op_add (pe_prp (pv 0) T.oc_PrimeForm T.pr_PrimeForm_degree G_PrimeForm_degree T.b_PrimeForm_degree (hr.mono (by decide))) (pe_prp (pv 1) T.oc_PrimeForm T.pr_PrimeForm_degree G_PrimeForm_degree T.b_PrimeForm_degree (hr.mono (by decide)))) (pe_glob (v := .int 12) (by rfl) T.c_MOST_DEGREE.choose_spec ⟨_, rfl⟩) (nomark _))
      (pss_one ps_never)
      pss_nil)
    (pss_one (ps_ret (pe_make T.mk_PrimeForm G_PrimeForm_init (hr.mono (by decide)) (by rfl) T.g_PrimeForm T.b_PrimeForm_init .nil pass0 (pa_cons (pe_sl (pv 0)) (pa_cons (pe_call G_modulo (hr.mono (by decide)) (by rfl) T.g_modulo T.F_modulo.kp T.b_modulo .nil pass0 (pa_cons (pe_sl (pv 0)) (pa_cons (pe_call G_product_in (hr.mono (by decide)) (by rfl) T.g_product_in T.F_product_in.kp T.b_product_in .nil pass0 (pa_cons (pe_sl (pv 0)) (pa_cons (pe_sl (pv 1)) pa_nil))) pa_nil))) pa_nil))))))))), ?_⟩
    refine ⟨_, rfl, .inr ⟨b, T.C_PrimeForm, dy, _, .ref T.C_PrimeForm, true, rfl, rfl, fun w r => r, hb, T.oc_PrimeForm.scl, T.oc_PrimeForm.sis, T.oc_PrimeForm.kself, true, rfl, iteF ?_⟩⟩
    refine ⟨_, rfl, b, T.C_PrimeForm, dy, T.a_own_prime, _, 1, .int p, rfl, hb, T.oc_PrimeForm.scl, T.sl_own_prime, rfl, _, rfl, a, T.C_PrimeForm, dx, T.a_own_prime, _, 1, .int p, rfl, ha, T.oc_PrimeForm.scl, T.sl_own_prime, rfl, rfl, false, by rw [decide_eq_true rfl]; rfl, iteF ?_⟩
    refine ⟨_, rfl, prop_pdeg fa ⟨_, rfl, prop_pdeg fb ⟨_, _, rfl, rfl, _, _, rfl, rfl, _, rfl, ?_⟩⟩⟩
    rw [decide_eq_false (show ¬ (12 : Int) < (f.length : Int) - 1 + ((g.length : Int) - 1) by omega)]
    refine iteF ?_
    refine ⟨_, rfl, a, T.C_PrimeForm, dx, T.a_own_prime, _, 1, .int p, rfl, ha, T.oc_PrimeForm.scl, T.sl_own_prime, rfl, _, rfl, a, T.C_PrimeForm, dx, T.a_own_prime, _, 1, .int p, rfl, ha, T.oc_PrimeForm.scl, T.sl_own_prime, rfl, _, rfl, a, T.C_PrimeForm, dx, T.a_PrimeForm_own_entries, _, 0, .ref u, rfl, ha, T.oc_PrimeForm.scl, T.sl_PrimeForm_own_entries, rfl, _, rfl, b, T.C_PrimeForm, dy, T.a_PrimeForm_own_entries, _, 0, .ref v, rfl, hb, T.oc_PrimeForm.scl, T.sl_PrimeForm_own_entries, rfl, u, v, f, g, rfl, hu, hv, rf.ne, rg.ne, rf.len, rg.len, rf.sm, rg.sm, fun q1 H2 s2 n2 h2 => ?_⟩
    have lL : (ml f g).length = f.length + g.length - 1 := ml_len f g
    refine ⟨p, q1, _, rfl, by omega, h2, by omega, fun q2 H3 s3 n3 h3 => fun x dx x1 x2 x3 => mkP x1 x2 x3 h3 hp (by rw [md_len]; omega) (by rw [md_len]; omega) (sho_md hp) fun H4 s4 f4 => ?_⟩
    rw [md_md] at f4
    exact q x H4 (s2.trans (s3.trans s4)) f4
def spSomePrime : Sp := fun vs H Q _ => ∃ (d : Addr), vs = [.ref d] ∧ Dc H d ∧ ∀ (p : Int) H', p ∈ PR → Sx d H H' → Dc H' d → Q (.int p) H'
theorem ok_law_some_prime (T : Facts K mg) : FnOk P w K mg base CX0 3 T.f_law_some_prime T.fd_law_some_prime ["_law_dice_here"] spSomePrime := by
  have G_law_pick : FnOk P w K mg base CX0 2 T.f_law_pick T.fd_law_pick ["_law_dice_here", "_law_items"] spPick2 := (ok_law_pick T).imp pick2
  refine T.F_law_some_prime.ok sc_law_some_prime (fun vs H Q E h => ?_) (fun cdv A outer s H vs Q E hr h => ?_)
  · obtain ⟨d, rfl, _⟩ := h
    rfl
  · obtain ⟨d, rfl, hd, q⟩ := h
    refine ⟨_, (PSs.nox (pss_one (ps_ret (pe_call G_law_pick hr (by rfl) T.g_law_pick T.F_law_pick.kp T.b_law_pick .nil pass0 (pa_cons (pv 0) (pa_cons (pe_lst (pa_cons pe_int (pa_cons pe_int (pa_cons pe_int (pa_cons pe_int (pa_cons pe_int (pa_cons pe_int (pa_cons pe_int (pa_cons pe_int (pa_cons pe_int (pa_cons pe_int (pa_cons pe_int (pa_cons pe_int (pa_cons pe_int (pa_cons pe_int (pa_cons pe_int (pa_cons pe_int (pa_cons pe_int (pa_cons pe_int (pa_cons pe_int (pa_cons pe_int (pa_cons pe_int (pa_cons pe_int pa_nil))))))))))))))))))))))) pa_nil)))))), ?_⟩
    refine ⟨_, rfl, by show 22 ≤ sizeLine; decide, fun B nB => gen_upd H B (.lst (((13 : Int) :: PR).map V.int)) nB fun H1 s1 f1 => ⟨d, B, _, rfl, hd.same s1, f1, hd.ne nB, by decide, by decide, fun v H2 hv s2 d2 => ?_⟩⟩
    obtain ⟨p, hp, rfl⟩ := List.mem_map.mp hv
    refine q p H2 ?_ ((Sx.of s1).trans s2) d2
    rcases List.mem_cons.mp hp with e | e
    · rw [e]; decide
    · exact e
def spPTable : Sp := fun vs H Q _ => ∃ (d : Addr) (p : Int), vs = [.ref d, .int p] ∧ Dc H d ∧ p ∈ PR ∧ ∀ t H' a b c e, Sx d H H' → Dc H' d → Tb H' t [a, b] [c, e] → a.natAbs ≤ 10 ^ 20 → b.natAbs ≤ 10 ^ 20 → c.natAbs ≤ 10 ^ 20 → e.natAbs ≤ 10 ^ 20 → (a * e - b * c) % p ≠ 0 → Q (.ref t) H'
theorem ok_law_prime_table (T : Facts K mg) : FnOk P w K mg base CX0 3 T.f_law_prime_table T.fd_law_prime_table ["_law_dice_here", "_law_prime"] spPTable := by
  have G_law_pick : FnOk P w K mg base CX0 2 T.f_law_pick T.fd_law_pick ["_law_dice_here", "_law_items"] spPick2 := (ok_law_pick T).imp pick2
  have G_law_near : FnOk P w K mg base CX0 2 T.f_law_near T.fd_law_near ["_law_dice_here", "_law_most"] spNearB := ok_law_nearB T
  have G_law_det := ok_law_det (P := P) (w := w) (base := base) T
  refine T.F_law_prime_table.ok sc_law_prime_table (fun vs H Q E h => ?_) (fun cdv A outer s H vs Q E hr h => ?_)
  · obtain ⟨d, p, rfl, _⟩ := h
    rfl
  · obtain ⟨d, p, rfl, hd, hp, q⟩ := h
    obtain ⟨p1, p2⟩ := pr_bd hp
    have z2 : 2 ≤ sizeLine := by decide
    have e20 : (10 : Int) ^ 20 = 100000000000000000000 := by decide
    have e20n : (10 : Nat) ^ 20 = 100000000000000000000 := by decide
    have sp : sm p := sm_le (n := 101) (show p.natAbs ≤ 101 by omega) (by decide)
    refine ⟨_, (PSs.nox (pss_cons (ps_set (i := 2) sc_law_prime_table.nd rfl (.inr rfl) (pe_call G_law_pick hr (by rfl) T.g_law_pick T.F_law_pick.kp T.b_law_pick .nil pass0 (pa_cons (pv 0) (pa_cons (pe_lst (pa_cons pe_int (pa_cons (pv 1) (pa_cons (pe_op op_mulW pe_int (pv 1)) (pa_cons (pe_op op_pow pe_int pe_int) pa_nil))))) pa_nil))))
    (pss_cons (ps_set (i := 3) sc_law_prime_table.nd rfl (.inl rfl) (pe_tupleOf (by rfl) T.z_tuple (pe_lc (own := [("_law_row", 4)]) (g := (gName 4)) (tt := tYes) (by rfl) sc_law_prime_table.nd (pi_range1 (by rfl) T.z_range (pa_cons pe_int pa_nil)) (blkOk_by (N := N_law_prime_table) (sc := defScope s_law_prime_table) (by decide +kernel)) (fun _ _ _ _ _ => (pg_name (i := 4) sc_law_prime_table.nd rfl (.inl rfl))) (fun _ _ _ _ _ => pts_nil) (fun _ _ _ _ _ => (pe_tup (pa_cons (pe_call G_law_near hr (by rfl) T.g_law_near T.F_law_near.kp T.b_law_near .nil pass0 (pa_cons (pv 0) (pa_cons (pv 2) pa_nil))) (pa_cons (pe_call G_law_near hr (by rfl) T.g_law_near T.F_law_near.kp T.b_law_near .nil pass0 (pa_cons (pv 0) (pa_cons (pv 2) pa_nil))) pa_nil)))))))
    (pss_one (ps_ret (pe_ifExp (pt_cmpR op_ne (pe_op op_mod (pe_callTy call_int1 (by rfl) T.z_int (by decide +kernel) (pa_cons (pe_call G_law_det (hr.mono (by decide)) (by rfl) T.g_law_det T.F_law_det.kp T.b_law_det .nil pass0 (pa_cons (pv 3) pa_nil)) pa_nil)) (pv 1)) pe_int (nomark _)) (pv 3) (pe_tup (pa_cons (pe_tup (pa_cons pe_int (pa_cons pe_int pa_nil))) (pa_cons (pe_tup (pa_cons pe_int (pa_cons pe_int pa_nil))) pa_nil))))))))), ?_⟩
    refine ⟨_, rfl, _, rfl, _, rfl, _, _, rfl, rfl, sm_mul (sm_le (n := 3) (by decide) (by decide)) sp, 10, 20, rfl, rfl, ⟨by decide, by decide, by decide⟩, by show 4 ≤ sizeLine; decide, fun B nB => gen_upd H B (.lst [.int 2, .int p, .int (3 * p), .int 100000000000000000000]) nB fun H0 s0 f0 => ⟨d, B, _, rfl, hd.same s0, f0, hd.ne nB, by simp, by simp, fun v H1 hv s1' d1 => ?_⟩⟩
    obtain ⟨m, rfl, hm0, hm1⟩ : ∃ M : Int, v = .int M ∧ 0 ≤ M ∧ M ≤ 100000000000000000000 := by
      simp only [List.mem_cons, List.not_mem_nil, or_false] at hv
      rcases hv with e | e | e | e <;> exact ⟨_, e, by omega, by omega⟩
    have s1 := (Sx.of s0).trans s1'
    refine ⟨2, rfl, by decide, by decide, fun D hD => lc_range (n := (2 : Int).toNat) (fun j H' => Sx d H1 H' ∧ Dc H' d ∧ ∃ (rs : List Addr) (ls : List (List Int)), H' D = some (.lst (rs.map V.ref)) ∧ rs.length = j ∧ ls.length = j ∧ (∀ i (h : i < ls.length) (h' : i < rs.length), H' rs[i] = some (tp ls[i])) ∧ ∀ l ∈ ls, l.length = 2 ∧ ∀ x ∈ l, x.natAbs ≤ 10 ^ 20) ⟨Sx.of (same_upd0 hD), d1.same (same_upd0 hD), [], [], upd_same, rfl, rfl, fun i h _ => absurd h (Nat.not_lt_zero i), fun l h => (nomatch h)⟩ (fun j H' hj hP => ?_) (fun H' hP => ?_)⟩
    · obtain ⟨sH, dH, rs, ls, hL, hl1, hl2, hr, hb⟩ := hP
      have nD : D ≠ d := d1.ne hD
      refine ⟨rfl, _, rfl, _, rfl, d, m, rfl, dH, hm0, hm1, fun u H2 u1 u2 s2 d2 => ⟨_, rfl, _, rfl, d, m, rfl, d2, hm0, hm1, fun v H3 v1 v2 s3 d3 => ⟨z2, fun p2 n2 => gen_upd H3 p2 (tp [u, v]) n2 fun H4 s4 f4 => ?_⟩⟩⟩
      have hL4 := s4 _ _ (s3 D _ nD (s2 D _ nD hL))
      have dD : ∀ a l, H4 a = some (tp l) → a ≠ D := fun a l e z => by
        rw [z, hL4] at e
        cases e
      have d4 := d3.same s4
      have hj2 : j < 2 := hj
      refine ⟨_, hL4, by rw [List.length_map, hl1]; exact small1000 (by omega), fun b o hb2 e => ?_, ?_, rs ++ [p2], ls ++ [[u, v]], by rw [upd_same, List.map_append]; rfl, by rw [List.length_append, hl1]; rfl, by rw [List.length_append, hl2]; rfl, fun i h h' => ?_, fun l hl => ?_⟩
      · rw [upd_ne (ne_of_none e hD)]
        exact s4 _ _ (s3 b o hb2 (s2 b o hb2 (sH b o hb2 e)))
      · obtain ⟨x, y, z, e⟩ := d4
        exact ⟨x, y, z, by rw [upd_ne (Ne.symm nD)]; exact e⟩
      · by_cases c : i < ls.length
        · have e1 : (rs ++ [p2])[i] = rs[i]'(by omega) := List.getElem_append_left _
          have e2 : (ls ++ [[u, v]])[i] = ls[i] := List.getElem_append_left _
          rw [e1, e2]
          have e3 := s3 _ _ (dc_ne d2 (s2 _ _ (dc_ne dH (hr i c (by omega))) (hr i c (by omega)))) (s2 _ _ (dc_ne dH (hr i c (by omega))) (hr i c (by omega)))
          rw [upd_ne (dD _ _ (s4 _ _ e3))]
          exact s4 _ _ e3
        · have ei : i = ls.length := by rw [List.length_append] at h; simp at h; omega
          subst ei
          have e1 : (rs ++ [p2])[ls.length] = p2 := by rw [List.getElem_append_right (by omega)]; simp [hl1, hl2]
          have e2 : (ls ++ [[u, v]])[ls.length] = [u, v] := by rw [List.getElem_append_right (by omega)]; simp
          rw [e1, e2, upd_ne (dD _ _ f4)]
          exact f4
      · rcases List.mem_append.mp hl with e | e
        · exact hb l e
        · rw [List.mem_singleton.mp e]
          refine ⟨rfl, fun x hx => ?_⟩
          simp only [List.mem_cons, List.not_mem_nil, or_false] at hx
          rcases hx with e | e <;> rw [e, e20n] <;> omega
    · obtain ⟨sH, dH, rs, ls, hL, hl1, hl2, hr, hb⟩ := hP
      match rs, hl1, ls, hl2, hL, hr, hb with
      | [r0, r1], _, [l0, l1], _, hL, hr, hb =>
        have k0 : H' r0 = some (tp l0) := hr 0 (by simp) (by simp)
        have k1 : H' r1 = some (tp l1) := hr 1 (by simp) (by simp)
        obtain ⟨b0, c0⟩ := hb l0 (by simp)
        obtain ⟨b1, c1⟩ := hb l1 (by simp)
        match l0, b0, l1, b1, k0, k1, c0, c1 with
        | [a, b], _, [c, e], _, k0, k1, c0, c1 =>
          have ba := c0 a (by simp)
          have bb := c0 b (by simp)
          have bc := c1 c (by simp)
          have be := c1 e (by simp)
          refine .inl ⟨D, _, rfl, SqL.of hL, fun p9 np => ?_⟩
          refine gen_upd H' p9 (.tup [.ref r0, .ref r1]) np fun H2 s2 f2 => ?_
          have k0' := s2 _ _ k0
          have k1' := s2 _ _ k1
          have hT : Tb H2 p9 [a, b] [c, e] := ⟨r0, r1, f2, k0', k1'⟩
          refine ⟨_, rfl, p9, a, b, c, e, rfl, hT, w45 ba, w45 bb, w45 bc, w45 be, .inl ⟨_, rfl, _, rfl, _, _, rfl, rfl, by omega, rfl, _, rfl, ?_⟩⟩
          have sZ : Sx d H H2 := s1.trans (sH.trans (Sx.of s2))
          by_cases z : (a * e - b * c) % p = 0
          · rw [decide_eq_true (show V.int ((a * e - b * c) % p) = V.int 0 by rw [z])]
            refine iteF ⟨z2, fun q0 m0 => gen_upd H2 q0 (tp [1, 1]) m0 fun H3 s3 f3 => ⟨z2, fun q1 m1 => gen_upd H3 q1 (tp [0, 1]) m1 fun H4 s4 f4 => ⟨z2, fun q2 m2 => gen_upd H4 q2 (.tup [.ref q0, .ref q1]) m2 fun H5 s5 f5 => ?_⟩⟩⟩
            have s25 := (s3.trans s4).trans s5
            refine q q2 H5 1 1 0 1 (sZ.trans (Sx.of s25)) ((dH.same s2).same s25) ⟨q0, q1, f5, s5 _ _ (s4 _ _ f3), s5 _ _ f4⟩ (by decide) (by decide) (by decide) (by decide) ?_
            show (1 : Int) % p ≠ 0
            rw [Int.emod_eq_of_lt (by decide) (by omega)]
            decide
          · rw [decide_eq_false fun y => z (V.int.inj y)]
            exact iteT ⟨_, rfl, q p9 H2 a b c e sZ (dH.same s2) hT ba bb bc be z⟩
end
end K49

set_option Elab.async false
set_option linter.all false
set_option maxRecDepth 100000
set_option maxHeartbeats 4000000
namespace K49
open PySem PySem.Spec PyProof.Rows L2 StX RZ MyR SlX OwnR OwnF EnumT
/-! ### undone: x ^ (p - 2) modulo p -/
def ul (p : Int) : Nat → Int → Int → Nat → Int
  | 0, f, _, _ => f
  | n + 1, f, w, k => if k = 0 then f else ul p n (if k % 2 = 1 then f * w % p else f) (w * w % p) (k / 2)
def und (p x : Int) : Int := ul p 7 1 (x % p) (p - 2).toNat
theorem ul_zero (p f w : Int) : ∀ n, ul p n f w 0 = f
  | 0 => rfl
  | n + 1 => by simp only [ul, if_pos]
def lOf : L2.St → Nat
  | [_, _, _, _, some (.int y)] => y.toNat
  | _ => 0
theorem und_fermat : ∀ p ∈ PR, ∀ k : Nat, k < 101 → (k : Int) % p ≠ 0 → ((k : Int) * und p k) % p = 1 := by decide +kernel
theorem und_one : ∀ p ∈ PR, und p 1 = 1 := by decide +kernel
theorem und_bd : ∀ p ∈ PR, ∀ k : Nat, k < 101 → 0 ≤ und p k ∧ und p k < p := by decide +kernel
/-- no entry other than 0, or the row by the first one's inverse -/
def nz (l : List Int) : List Int := l.filter (· != 0)
def plR (p : Int) (l : List Int) : List Int := match nz l with
  | [] => l
  | x :: _ => l.map fun z => z * und p x % p
theorem plR_len (p : Int) (l : List Int) : (plR p l).length = l.length := by
  unfold plR
  split
  · rfl
  · exact List.length_map ..
theorem md_id {p : Int} {l : List Int} (h : ∀ z ∈ l, 0 ≤ z ∧ z < p) : md p l = l := by
  unfold md
  exact (List.map_congr_left (g := id) fun z hz => Int.emod_eq_of_lt (h z hz).1 (h z hz).2).trans (List.map_id l)
theorem plR_red {p : Int} (hp : 0 < p) {l : List Int} (h : ∀ z ∈ l, 0 ≤ z ∧ z < p) : ∀ z ∈ plR p l, 0 ≤ z ∧ z < p := fun z hz => by
  unfold plR at hz
  split at hz
  · exact h z hz
  · obtain ⟨y, _, rfl⟩ := List.mem_map.mp hz
    exact ⟨Int.emod_nonneg _ (by omega), Int.emod_lt_of_pos _ hp⟩
theorem plR_twice {p : Int} (hp : p ∈ PR) {l : List Int} (h : ∀ z ∈ l, 0 ≤ z ∧ z < p) : plR p (plR p l) = plR p l := by
  obtain ⟨p1, p2⟩ := pr_bd hp
  cases e : nz l with
  | nil =>
    have e1 : plR p l = l := by unfold plR; rw [e]
    rw [e1, e1]
  | cons x r =>
    have e1 : plR p l = l.map fun z => z * und p x % p := by unfold plR; rw [e]
    have hx : x ∈ nz l := by rw [e]; exact List.mem_cons_self
    obtain ⟨hxl, hx0⟩ := List.mem_filter.mp hx
    have hx0 : x ≠ 0 := by simpa using hx0
    obtain ⟨b1, b2⟩ := h x hxl
    have hf : (x * und p x) % p = 1 := by
      have := und_fermat p hp x.toNat (by omega) (by rw [Int.toNat_of_nonneg b1, Int.emod_eq_of_lt b1 b2]; exact hx0)
      rwa [Int.toNat_of_nonneg b1] at this
    have key : ∀ z ∈ l, z ≠ 0 → z * und p x % p ≠ 0 := fun z hz z0 e0 => by
      obtain ⟨c1, c2⟩ := h z hz
      have e3 : (z * (x * und p x)) % p = z := by
        rw [Int.mul_emod, hf, Int.mul_one, Int.emod_emod, Int.emod_eq_of_lt c1 c2]
      have e4 : (z * (x * und p x)) % p = 0 := by
        rw [show z * (x * und p x) = x * (z * und p x) by rw [← Int.mul_assoc, Int.mul_comm z x, Int.mul_assoc], Int.mul_emod, e0, Int.mul_zero, Int.zero_emod]
      exact z0 (e3.symm.trans e4)
    have e2 : nz (l.map fun z => z * und p x % p) = (nz l).map fun z => z * und p x % p := by
      unfold nz
      rw [List.filter_map]
      congr 1
      refine List.filter_congr fun z hz => ?_
      by_cases z0 : z = 0
      · rw [z0]
        simp
      · have a1 : (z * und p x % p != 0) = true := by simpa using key z hz z0
        have a2 : (z != 0) = true := by simpa using z0
        show (z * und p x % p != 0) = (z != 0)
        rw [a1, a2]
    rw [e1]
    unfold plR
    rw [e2, e, List.map_cons, hf]
    simp only []
    rw [List.map_map]
    refine List.map_congr_left fun z hz => ?_
    show z * und p x % p * und p 1 % p = _
    rw [und_one p hp, Int.mul_one, Int.emod_emod]
theorem md_scaled (p u : Int) (l : List Int) : md p (l.map (u * ·)) = l.map fun z => z * u % p := by
  unfold md
  rw [List.map_map]
  exact List.map_congr_left fun z _ => by show (u * z) % p = _; rw [Int.mul_comm]
section
variable {P : Program} {w : World} {K : PySem.W.Frag} {mg : Str → Option Value} {base : Heap}
def spUnd : Sp := fun vs H Q _ => ∃ p x : Int, vs = [.int p, .int x] ∧ p ∈ PR ∧ Q (.int (und p x)) H
def spUnd2 : Sp := fun vs H Q _ => ∃ p x : Int, vs = [.int x, .int p] ∧ p ∈ PR ∧ Q (.int (und p x)) H
theorem ok_undone_in (T : Facts K mg) : FnOk P w K mg base CX0 1 T.f_undone_in T.fd_undone_in ["prime", "number"] spUnd := by
  refine T.F_undone_in.ok sc_undone_in (fun vs H Q E h => ?_) (fun cdv A outer s H vs Q E hr h => ?_)
  · obtain ⟨p, x, rfl, _⟩ := h
    rfl
  · obtain ⟨p, x, rfl, hp, q⟩ := h
    obtain ⟨p1, p2⟩ := pr_bd hp
    have p128 : p < 128 := by omega
    refine ⟨_, (PSs.nox (pss_cons (ps_par3 (i := 2) (j := 3) (l := 4) (by rfl) sc_undone_in.nd rfl rfl rfl (by decide) (by decide) (by decide) rfl rfl rfl (pa_cons pe_int (pa_cons (pe_op op_mod (pv 1) (pv 0)) (pa_cons (pe_op op_sub (pv 0) pe_int) pa_nil))) (by rfl))
    (pss_cons (ps_while PassesOwn.never (pt_cmpR op_gt (pv 4) pe_int (nomark _))
      (pss_cons (ps_if (pt_cmpR op_eq (pe_op op_mod (pv 4) pe_int) pe_int (nomark _))
        (pss_one (ps_set (i := 2) sc_undone_in.nd rfl (.inl rfl) (pe_op op_mod (pe_op op_mulW (pv 2) (pv 3)) (pv 0))))
        pss_nil)
      (pss_cons (ps_set (i := 3) sc_undone_in.nd rfl (.inl rfl) (pe_op op_mod (pe_op op_mulW (pv 3) (pv 3)) (pv 0)))
      (pss_one (ps_aug (i := 4) sc_undone_in.nd rfl (.inl rfl) pe_int AugZ.ip_fdivZ)))))
    (pss_one (ps_ret (pv 2)))))), ?_⟩
    refine ⟨_, rfl, _, rfl, _, _, rfl, rfl, by omega, _, rfl, _, _, rfl, rfl, _, _, _, rfl, ?_⟩
    refine while_by (fun σ H' => ∃ (f w : Int) (k n : Nat), σ = [some (.int p), some (.int x), some (.int f), some (.int w), some (.int (k : Int))] ∧ 0 ≤ f ∧ f < p ∧ 0 ≤ w ∧ w < p ∧ k < 2 ^ n ∧ ul p n f w k = und p x ∧ H' = H) (fun σ _ => lOf σ) ⟨1, x % p, (p - 2).toNat, 7, ?_, by omega, by omega, Int.emod_nonneg _ (by omega), Int.emod_lt_of_pos _ (by omega), by omega, rfl, rfl⟩ (fun σ H' hP => ?_) (fun σ H' Q1 Q2 hQ h => ?_)
    · show [some (V.int p), some (V.int x), some (V.int 1), some (V.int (x % p)), some (V.int (p - 2))] = _
      rw [Int.toNat_of_nonneg (by omega)]
    · obtain ⟨f, w, k, n, rfl, f0, f1, w0, w1, hk, hu, rfl⟩ := hP
      have sf : sm f := sm_le (n := 101) (show f.natAbs ≤ 101 by omega) (by decide)
      have sw : sm w := sm_le (n := 101) (show w.natAbs ≤ 101 by omega) (by decide)
      refine ⟨_, rfl, _, _, rfl, rfl, _, rfl, ?_⟩
      by_cases c : 0 < (k : Int)
      · rw [decide_eq_true c]
        obtain ⟨m, rfl⟩ : ∃ m, n = m + 1 := ⟨n - 1, by cases n with | zero => omega | succ n => rfl⟩
        have hu2 : ul p m (if k % 2 = 1 then f * w % p else f) (w * w % p) (k / 2) = und p x := by
          rw [← hu]
          simp only [ul]
          rw [if_neg (show ¬ k = 0 by omega)]
        have hk2 : k / 2 < 2 ^ m := by rw [Nat.pow_succ] at hk; omega
        have kd : (k : Int) / 2 = ((k / 2 : Nat) : Int) := rfl
        have n0 := Int.emod_nonneg (w * w) (show p ≠ 0 by omega)
        have n1 := Int.emod_lt_of_pos (w * w) (show 0 < p by omega)
        have m0 := Int.emod_nonneg (f * w) (show p ≠ 0 by omega)
        have m1 := Int.emod_lt_of_pos (f * w) (show 0 < p by omega)
        have fin : ∀ f' : Int, 0 ≤ f' → f' < p → f' = (if k % 2 = 1 then f * w % p else f) → (∃ (f2 w2 : Int) (k2 n2 : Nat), [some (V.int p), some (V.int x), some (V.int f'), some (V.int (w * w % p)), some (V.int ((k : Int).fdiv 2))] = [some (V.int p), some (V.int x), some (V.int f2), some (V.int w2), some (V.int (k2 : Int))] ∧ 0 ≤ f2 ∧ f2 < p ∧ 0 ≤ w2 ∧ w2 < p ∧ k2 < 2 ^ n2 ∧ ul p n2 f2 w2 k2 = und p x ∧ H' = H') ∧ lOf [some (V.int p), some (V.int x), some (V.int f'), some (V.int (w * w % p)), some (V.int ((k : Int).fdiv 2))] < lOf [some (V.int p), some (V.int x), some (V.int f), some (V.int w), some (V.int (k : Int))] := fun f' h0 h1 e => by
          have e2 : (k : Int).fdiv 2 = ((k / 2 : Nat) : Int) := by rw [Int.fdiv_eq_ediv_of_nonneg _ (by decide)]; rfl
          rw [e2]
          refine ⟨⟨f', _, k / 2, m, rfl, h0, h1, n0, n1, hk2, by rw [e]; exact hu2, rfl⟩, ?_⟩
          show ((k / 2 : Nat) : Int).toNat < (k : Int).toNat
          omega
        refine iteT ⟨_, rfl, _, _, rfl, rfl, (by show (0 : Int) < 2; decide), rfl, _, rfl, ?_⟩
        have c2 : CDivZ (k : Int) 2 := ⟨by decide, by decide⟩
        by_cases c1 : k % 2 = 1
        · rw [decide_eq_true (show V.int ((k : Int) % 2) = V.int 1 by congr 1; omega)]
          refine iteT ⟨_, rfl, _, rfl, _, _, rfl, rfl, sm_mul sf sw, _, rfl, _, _, rfl, rfl, (by show 0 < p; omega), _, rfl, _, rfl, _, _, rfl, rfl, sm_mul sw sw, _, rfl, _, _, rfl, rfl, (by show 0 < p; omega), ?_⟩
          exact ⟨_, rfl, _, _, rfl, rfl, c2, fin _ m0 m1 (by rw [if_pos c1])⟩
        · rw [decide_eq_false (show ¬ V.int ((k : Int) % 2) = V.int 1 from fun y => c1 (by have := V.int.inj y; omega))]
          refine iteF ⟨_, rfl, _, rfl, _, _, rfl, rfl, sm_mul sw sw, _, rfl, _, _, rfl, rfl, (by show 0 < p; omega), ?_⟩
          exact ⟨_, rfl, _, _, rfl, rfl, c2, fin _ f0 f1 (by rw [if_neg c1])⟩
      · rw [decide_eq_false c]
        have ek : k = 0 := by omega
        subst ek
        rw [ul_zero] at hu
        subst hu
        exact iteF ⟨_, rfl, q⟩
    · obtain ⟨v, e, x1, x2, e1, e2, k, e3, h⟩ := h
      exact ⟨v, e, x1, x2, e1, e2, k, e3, hQ _ _ h⟩
theorem ok_law_undo_by (T : Facts K mg) : FnOk P w K mg base CX0 1 T.f_law_undo_by T.fd_law_undo_by ["_law_number", "_law_prime"] spUnd2 := by
  refine T.F_law_undo_by.ok sc_law_undo_by (fun vs H Q E h => ?_) (fun cdv A outer s H vs Q E hr h => ?_)
  · obtain ⟨p, x, rfl, _⟩ := h
    rfl
  · obtain ⟨p, x, rfl, hp, q⟩ := h
    obtain ⟨p1, p2⟩ := pr_bd hp
    have p128 : p < 128 := by omega
    refine ⟨_, (PSs.nox (pss_cons (ps_par3 (i := 2) (j := 3) (l := 4) (by rfl) sc_law_undo_by.nd rfl rfl rfl (by decide) (by decide) (by decide) rfl rfl rfl (pa_cons pe_int (pa_cons (pe_op op_mod (pe_callTy call_int1 (by rfl) T.z_int (by decide +kernel) (pa_cons (pv 0) pa_nil)) (pv 1)) (pa_cons (pe_op op_sub (pv 1) pe_int) pa_nil))) (by rfl))
    (pss_cons (ps_while PassesOwn.never (pt_cmpR op_gt (pv 4) pe_int (nomark _))
      (pss_cons (ps_if (pt_cmpR op_eq (pe_op op_mod (pv 4) pe_int) pe_int (nomark _))
        (pss_one (ps_set (i := 2) sc_law_undo_by.nd rfl (.inl rfl) (pe_op op_mod (pe_callTy call_int1 (by rfl) T.z_int (by decide +kernel) (pa_cons (pe_op op_mulW (pv 2) (pv 3)) pa_nil)) (pv 1))))
        pss_nil)
      (pss_one (ps_par (i := 3) (j := 4) (by rfl) sc_law_undo_by.nd rfl rfl (by decide) rfl rfl (pa_cons (pe_op op_mod (pe_callTy call_int1 (by rfl) T.z_int (by decide +kernel) (pa_cons (pe_op op_mulW (pv 3) (pv 3)) pa_nil)) (pv 1)) (pa_cons (pe_op op_fdivZ (pv 4) pe_int) pa_nil)) (by rfl)))))
    (pss_one (ps_ret (pv 2)))))), ?_⟩
    refine ⟨_, rfl, .inl ⟨_, rfl, _, rfl, _, _, rfl, rfl, by omega, _, rfl, _, _, rfl, rfl, _, _, _, rfl, ?_⟩⟩
    refine while_by (fun σ H' => ∃ (f w : Int) (k n : Nat), σ = [some (.int x), some (.int p), some (.int f), some (.int w), some (.int (k : Int))] ∧ 0 ≤ f ∧ f < p ∧ 0 ≤ w ∧ w < p ∧ k < 2 ^ n ∧ ul p n f w k = und p x ∧ H' = H) (fun σ _ => lOf σ) ⟨1, x % p, (p - 2).toNat, 7, ?_, by omega, by omega, Int.emod_nonneg _ (by omega), Int.emod_lt_of_pos _ (by omega), by omega, rfl, rfl⟩ (fun σ H' hP => ?_) (fun σ H' Q1 Q2 hQ h => ?_)
    · show [some (V.int x), some (V.int p), some (V.int 1), some (V.int (x % p)), some (V.int (p - 2))] = _
      rw [Int.toNat_of_nonneg (by omega)]
    · obtain ⟨f, w, k, n, rfl, f0, f1, w0, w1, hk, hu, rfl⟩ := hP
      have sf : sm f := sm_le (n := 101) (show f.natAbs ≤ 101 by omega) (by decide)
      have sw : sm w := sm_le (n := 101) (show w.natAbs ≤ 101 by omega) (by decide)
      refine ⟨_, rfl, _, _, rfl, rfl, _, rfl, ?_⟩
      by_cases c : 0 < (k : Int)
      · rw [decide_eq_true c]
        obtain ⟨m, rfl⟩ : ∃ m, n = m + 1 := ⟨n - 1, by cases n with | zero => omega | succ n => rfl⟩
        have hu2 : ul p m (if k % 2 = 1 then f * w % p else f) (w * w % p) (k / 2) = und p x := by
          rw [← hu]
          simp only [ul]
          rw [if_neg (show ¬ k = 0 by omega)]
        have hk2 : k / 2 < 2 ^ m := by rw [Nat.pow_succ] at hk; omega
        have kd : (k : Int) / 2 = ((k / 2 : Nat) : Int) := rfl
        have n0 := Int.emod_nonneg (w * w) (show p ≠ 0 by omega)
        have n1 := Int.emod_lt_of_pos (w * w) (show 0 < p by omega)
        have m0 := Int.emod_nonneg (f * w) (show p ≠ 0 by omega)
        have m1 := Int.emod_lt_of_pos (f * w) (show 0 < p by omega)
        have fin : ∀ f' : Int, 0 ≤ f' → f' < p → f' = (if k % 2 = 1 then f * w % p else f) → (∃ (f2 w2 : Int) (k2 n2 : Nat), [some (V.int x), some (V.int p), some (V.int f'), some (V.int (w * w % p)), some (V.int ((k : Int).fdiv 2))] = [some (V.int x), some (V.int p), some (V.int f2), some (V.int w2), some (V.int (k2 : Int))] ∧ 0 ≤ f2 ∧ f2 < p ∧ 0 ≤ w2 ∧ w2 < p ∧ k2 < 2 ^ n2 ∧ ul p n2 f2 w2 k2 = und p x ∧ H' = H') ∧ lOf [some (V.int x), some (V.int p), some (V.int f'), some (V.int (w * w % p)), some (V.int ((k : Int).fdiv 2))] < lOf [some (V.int x), some (V.int p), some (V.int f), some (V.int w), some (V.int (k : Int))] := fun f' h0 h1 e => by
          have e2 : (k : Int).fdiv 2 = ((k / 2 : Nat) : Int) := by rw [Int.fdiv_eq_ediv_of_nonneg _ (by decide)]; rfl
          rw [e2]
          refine ⟨⟨f', _, k / 2, m, rfl, h0, h1, n0, n1, hk2, by rw [e]; exact hu2, rfl⟩, ?_⟩
          show ((k / 2 : Nat) : Int).toNat < (k : Int).toNat
          omega
        refine iteT ⟨_, rfl, _, _, rfl, rfl, (by show (0 : Int) < 2; decide), rfl, _, rfl, ?_⟩
        have c2 : CDivZ (k : Int) 2 := ⟨by decide, by decide⟩
        by_cases c1 : k % 2 = 1
        · rw [decide_eq_true (show V.int ((k : Int) % 2) = V.int 1 by congr 1; omega)]
          refine iteT ⟨_, rfl, _, rfl, _, _, rfl, rfl, sm_mul sf sw, .inl ⟨_, rfl, _, rfl, _, _, rfl, rfl, (by show 0 < p; omega), _, rfl, _, rfl, _, _, rfl, rfl, sm_mul sw sw, .inl ⟨_, rfl, _, rfl, _, _, rfl, rfl, (by show 0 < p; omega), ?_⟩⟩⟩
          exact ⟨_, rfl, _, _, rfl, rfl, c2, _, _, rfl, fin _ m0 m1 (by rw [if_pos c1])⟩
        · rw [decide_eq_false (show ¬ V.int ((k : Int) % 2) = V.int 1 from fun y => c1 (by have := V.int.inj y; omega))]
          refine iteF ⟨_, rfl, _, rfl, _, _, rfl, rfl, sm_mul sw sw, .inl ⟨_, rfl, _, rfl, _, _, rfl, rfl, (by show 0 < p; omega), ?_⟩⟩
          exact ⟨_, rfl, _, _, rfl, rfl, c2, _, _, rfl, fin _ f0 f1 (by rw [if_neg c1])⟩
      · rw [decide_eq_false c]
        have ek : k = 0 := by omega
        subst ek
        rw [ul_zero] at hu
        subst hu
        exact iteF ⟨_, rfl, q⟩
    · obtain ⟨v, e, x1, x2, e1, e2, k, e3, h⟩ := h
      exact ⟨v, e, x1, x2, e1, e2, k, e3, hQ _ _ h⟩
end
end K49

set_option Elab.async false
set_option linter.all false
set_option maxRecDepth 100000
set_option maxHeartbeats 4000000
namespace K49
open PySem PySem.Spec PyProof.Rows L2 StX RZ MyR SlX OwnR OwnF EnumT
theorem eq_lints {K : PySem.W.Frag} {H : Hp} {a b : Addr} {xs ys : List Int} {Q : VK} (ha : SqL K H a (xs.map V.int)) (hb : SqL K H b (ys.map V.int)) (q : Q (.bl (decide (xs = ys))) H) : rEqD K (.ref a) (.ref b) H Q := by
  refine ⟨.list (xs.map PyData.int), .list (ys.map PyData.int), .lst ha (dpAll_ints xs), .lst hb (dpAll_ints ys), shaped_lints xs, shaped_lints ys, ?_⟩
  rw [show PyData.eqv (.list (xs.map PyData.int)) (.list (ys.map PyData.int)) = decide (xs = ys) from eqvAll_ints xs ys]
  exact q
section
variable {P : Program} {w : World} {K : PySem.W.Frag} {mg : Str → Option Value} {base : Heap}
def spLeftBy : Sp := fun vs H Q _ => ∃ (t : Addr) (l : List Int) (p : Int), vs = [.ref t, .int p] ∧ 0 < p ∧ H t = some (tp l) ∧ l.length ≤ 100 ∧ ∀ q H', Same H H' → H' q = some (tp (md p l)) → Q (.ref q) H'
theorem ok_law_left_by (T : Facts K mg) : FnOk P w K mg base CX0 1 T.f_law_left_by T.fd_law_left_by ["_law_entries", "_law_prime"] spLeftBy := by
  refine T.F_law_left_by.ok sc_law_left_by (fun vs H Q E h => ?_) (fun cdv A outer s H vs Q E hr h => ?_)
  · obtain ⟨t, l, p, rfl, _⟩ := h
    rfl
  · obtain ⟨t, l, p, rfl, hp, ht, hl, q⟩ := h
    refine ⟨_, (PSs.nox (pss_one (ps_ret (pe_tupleOf (by rfl) T.z_tuple (pe_lc (own := [("_law_entry", 2)]) (g := (gName 2)) (tt := tYes) (by rfl) sc_law_left_by.nd (pi_tup (pv 0)) (blkOk_by (N := N_law_left_by) (sc := defScope s_law_left_by) (by decide +kernel)) (fun _ _ _ _ _ => (pg_name (i := 2) sc_law_left_by.nd rfl (.inl rfl))) (fun _ _ _ _ _ => pts_nil) (fun _ _ _ _ _ => (pe_op op_mod (pe_callTy call_int1 (by rfl) T.z_int (by decide +kernel) (pa_cons (pv 2) pa_nil)) (pv 1)))))))), ?_⟩
    refine ⟨_, rfl, t, rfl, ⟨_, SqT.of ht⟩, fun D hD => lc_tup (xs := l.map V.int) (fun j H' => H' = upd H D (.lst (tab j fun k => co l k % p))) rfl (fun j H' _ hP => ?_) (fun j x H' hx hP => ?_) (fun H' hP => ?_)⟩
    · rw [hP]
      exact SqT.of (same_upd0 hD _ _ ht)
    · subst hP
      obtain ⟨hj, rfl⟩ := int_get hx
      refine ⟨rfl, _, rfl, .inl ⟨_, rfl, _, rfl, _, _, rfl, rfl, hp, _, upd_same, ?_, ?_⟩⟩
      · rw [tab_len]
        exact small1000 (by omega)
      · rw [upd_upd, ← tab_snoc]
    · subst hP
      rw [List.length_map, tab_tb, tb_md]
      exact .inl ⟨D, _, rfl, SqL.of upd_same, fun p2 hp2 => q p2 _ ((same_upd0 hD).trans (same_upd0 hp2)) upd_same⟩
def spPRow : Sp := fun vs H Q _ => ∃ (t : Addr) (l : List Int) (p : Int), vs = [.int p, .ref t] ∧ p ∈ PR ∧ H t = some (tp l) ∧ (∀ z ∈ l, 0 ≤ z ∧ z < p) ∧ l.length ≤ 100 ∧ ∀ q H', Same H H' → H' q = some (tp (plR p l)) → Q (.ref q) H'
theorem ok_plain_row (T : Facts K mg) : FnOk P w K mg base CX0 2 T.f_plain_row T.fd_plain_row ["prime", "numbers"] spPRow := by
  have G_undone_in := ok_undone_in (P := P) (w := w) (base := base) T
  refine T.F_plain_row.ok sc_plain_row (fun vs H Q E h => ?_) (fun cdv A outer s H vs Q E hr h => ?_)
  · obtain ⟨t, l, p, rfl, _⟩ := h
    rfl
  · obtain ⟨t, l, p, rfl, hp, ht, hb, hl, q⟩ := h
    obtain ⟨p1, p2⟩ := pr_bd hp
    refine ⟨_, (PSs.nox (pss_cons (ps_setLc (i := 2) (own := [("number", 3)]) (g := (gName 3)) rfl sc_plain_row.nd rfl rfl (sw_true rfl rfl rfl (by decide +kernel)) (pi_tup (pv 1)) (blkOk_by (N := N_plain_row) (sc := defScope s_plain_row) (by decide +kernel)) (fun _ _ _ _ _ => (pg_name (i := 3) sc_plain_row.nd rfl (.inl rfl))) (fun _ _ _ _ _ => (pts_one (pt_cmpR op_ne (pv 3) pe_int (nomark _)))) (fun _ _ _ _ _ => (pv 3)))
    (pss_cons (ps_if (pt_cmpR (op_eqD (hu64 hr)) (pv 2) (pe_lst pa_nil) (nomark _))
      (pss_one (ps_ret (pe_tupleOf (by rfl) T.z_tuple (pv 1))))
      pss_nil)
    (pss_cons (ps_set (i := 4) sc_plain_row.nd rfl (.inr rfl) (pe_call G_undone_in hr (by rfl) T.g_undone_in T.F_undone_in.kp T.b_undone_in .nil pass0 (pa_cons (pv 0) (pa_cons (pe_ix ix_list (pv 2) pe_int (fun _ _ => rfl)) pa_nil))))
    (pss_one (ps_ret (pe_tupleOf (by rfl) T.z_tuple (pe_lc (own := [("number", 3)]) (g := (gName 3)) (tt := tYes) (by rfl) sc_plain_row.nd (pi_tup (pv 1)) (blkOk_by (N := N_plain_row) (sc := defScope s_plain_row) (by decide +kernel)) (fun _ _ _ _ _ => (pg_name (i := 3) sc_plain_row.nd rfl (.inl rfl))) (fun _ _ _ _ _ => pts_nil) (fun _ _ _ _ _ => (pe_op op_mod (pe_op op_mulW (pv 3) (pv 4)) (pv 0))))))))))), ?_⟩
    refine ⟨_, rfl, t, rfl, ⟨_, SqT.of ht⟩, fun D hD => lc_tup (xs := l.map V.int) (fun j H' => Same H H' ∧ H' D = some (.lst ((nz (l.take j)).map V.int))) ⟨same_upd0 hD, upd_same⟩ (fun j H' _ hP => SqT.of (hP.1 _ _ ht)) (fun j x H' hx hP => ?_) (fun H1 hP => ?_)⟩
    · obtain ⟨sH, hL⟩ := hP
      obtain ⟨hj, rfl⟩ := int_get hx
      refine ⟨rfl, _, rfl, rfl, _, rfl, ?_⟩
      unfold nz at hL ⊢
      rw [take_snoc hj, List.filter_append]
      by_cases d : co l j = 0
      · rw [decide_eq_true (show V.int (co l j) = V.int 0 by rw [d])]
        refine iteF ⟨sH, ?_⟩
        rw [hL, List.filter_cons_of_neg (by rw [d]; decide), List.filter_nil, List.append_nil]
      · rw [decide_eq_false fun z => d (V.int.inj z)]
        refine iteT ⟨_, rfl, _, hL, ?_, fun b o e => ?_, ?_⟩
        · have h1 := List.length_filter_le (fun x => x != 0) (l.take j)
          rw [List.length_take] at h1
          rw [List.length_map]
          exact small1000 (by omega)
        · rw [upd_ne (ne_of_none e hD)]
          exact sH _ _ e
        · rw [upd_same, List.filter_cons_of_pos (by simpa using d), List.filter_nil, List.map_append]
          rfl
    · obtain ⟨s1, hL⟩ := hP
      rw [List.length_map, List.take_length] at hL
      have ht1 := s1 _ _ ht
      refine ⟨_, rfl, by show 0 ≤ sizeLine; exact Nat.zero_le _, fun E0 nE => gen_upd H1 E0 (.lst []) nE fun H2 s2 f2 => eq_lints (ys := []) (SqL.of (s2 _ _ hL)) (SqL.of f2) ?_⟩
      have ht2 := s2 _ _ ht1
      cases e : nz l with
      | nil =>
        rw [decide_eq_true rfl]
        refine ⟨true, rfl, iteT ⟨_, rfl, .inr ⟨t, _, rfl, SqT.of ht2, q t H2 (s1.trans s2) ?_⟩⟩⟩
        unfold plR
        rw [e]
        exact ht2
      | cons x r =>
        rw [decide_eq_false (by simp)]
        have hx : x ∈ nz l := by rw [e]; exact List.mem_cons_self
        obtain ⟨hxl, _⟩ := List.mem_filter.mp hx
        obtain ⟨b1, b2⟩ := hb x hxl
        have hL2 := s2 _ _ hL
        rw [e] at hL2
        have ub := und_bd p hp x.toNat (by omega)
        rw [Int.toNat_of_nonneg b1] at ub
        refine ⟨false, rfl, iteF ⟨_, rfl, _, rfl, D, _, 0, _, rfl, rfl, SqL.of hL2, atI_nat (j := 0) rfl, p, x, rfl, hp, ?_⟩⟩
        refine ⟨_, rfl, t, rfl, ⟨_, SqT.of ht2⟩, fun D2 hD2 => lc_tup (xs := l.map V.int) (fun j H' => H' = upd H2 D2 (.lst (tab j fun k => co l k * und p x % p))) rfl (fun j H' _ hP => ?_) (fun j y H' hy hP => ?_) (fun H' hP => ?_)⟩
        · rw [hP]
          exact SqT.of (same_upd0 hD2 _ _ ht2)
        · subst hP
          obtain ⟨hj, rfl⟩ := int_get hy
          obtain ⟨c1, c2⟩ : 0 ≤ co l j ∧ co l j < p := by rw [co_get hj]; exact hb _ (List.getElem_mem hj)
          refine ⟨rfl, _, rfl, _, rfl, _, _, rfl, rfl, sm_mul (sm_le (n := 101) (show (co l j).natAbs ≤ 101 by omega) (by decide)) (sm_le (n := 101) (show (und p x).natAbs ≤ 101 by omega) (by decide)), _, rfl, _, _, rfl, rfl, (by show 0 < p; omega), _, upd_same, ?_, ?_⟩
          · rw [tab_len]
            exact small1000 (by omega)
          · rw [upd_upd, ← tab_snoc]
        · subst hP
          rw [List.length_map, tab_tb, tb_map (fun z => z * und p x % p) l]
          refine .inl ⟨D2, _, rfl, SqL.of upd_same, fun p2 hp2 => q p2 _ ((s1.trans s2).trans ((same_upd0 hD2).trans (same_upd0 hp2))) ?_⟩
          rw [upd_same]
          unfold plR
          rw [e]
def spFirstOne : Sp := fun vs H Q _ => ∃ (t : Addr) (l : List Int) (p : Int), vs = [.ref t, .int p] ∧ p ∈ PR ∧ H t = some (tp l) ∧ (∀ z ∈ l, 0 ≤ z ∧ z < p) ∧ l.length ≤ 100 ∧ ∀ q H', Same H H' → H' q = some (tp (plR p l)) → Q (.ref q) H'
theorem ok_law_first_one (T : Facts K mg) : FnOk P w K mg base CX0 2 T.f_law_first_one T.fd_law_first_one ["_law_entries", "_law_prime"] spFirstOne := by
  have G_law_undo_by := ok_law_undo_by (P := P) (w := w) (base := base) T
  have G_law_left_by := ok_law_left_by (P := P) (w := w) (base := base) T
  have G_law_scaled := ok_law_scaled (P := P) (w := w) (base := base) T
  refine T.F_law_first_one.ok sc_law_first_one (fun vs H Q E h => ?_) (fun cdv A outer s H vs Q E hr h => ?_)
  · obtain ⟨t, l, p, rfl, _⟩ := h
    rfl
  · obtain ⟨t, l, p, rfl, hp, ht, hb, hl, q⟩ := h
    obtain ⟨p1, p2⟩ := pr_bd hp
    refine ⟨_, (PSs.nox (pss_cons (ps_setLc (i := 2) (own := [("_law_entry", 3)]) (g := (gName 3)) rfl sc_law_first_one.nd rfl rfl (sw_true rfl rfl rfl (by decide +kernel)) (pi_tup (pe_call G_law_left_by hr (by rfl) T.g_law_left_by T.F_law_left_by.kp T.b_law_left_by .nil pass0 (pa_cons (pv 0) (pa_cons (pv 1) pa_nil)))) (blkOk_by (N := N_law_first_one) (sc := defScope s_law_first_one) (by decide +kernel)) (fun _ _ _ _ _ => (pg_name (i := 3) sc_law_first_one.nd rfl (.inl rfl))) (fun _ _ _ _ _ => (pts_one (pt_cmpR op_ne (pv 3) pe_int (nomark _)))) (fun _ _ _ _ _ => (pv 3)))
    (pss_cons (ps_if (pt_cmpR (op_eqD (hu64 hr)) (pv 2) (pe_lst pa_nil) (nomark _))
      (pss_one (ps_ret (pe_call G_law_left_by hr (by rfl) T.g_law_left_by T.F_law_left_by.kp T.b_law_left_by .nil pass0 (pa_cons (pv 0) (pa_cons (pv 1) pa_nil)))))
      pss_nil)
    (pss_one (ps_ret (pe_call G_law_left_by hr (by rfl) T.g_law_left_by T.F_law_left_by.kp T.b_law_left_by .nil pass0 (pa_cons (pe_call G_law_scaled hr (by rfl) T.g_law_scaled T.F_law_scaled.kp T.b_law_scaled .nil pass0 (pa_cons (pv 0) (pa_cons (pe_call G_law_undo_by hr (by rfl) T.g_law_undo_by T.F_law_undo_by.kp T.b_law_undo_by .nil pass0 (pa_cons (pe_ix ix_list (pv 2) pe_int (fun _ _ => rfl)) (pa_cons (pv 1) pa_nil))) pa_nil))) (pa_cons (pv 1) pa_nil)))))))), ?_⟩
    refine ⟨_, rfl, _, rfl, t, l, p, rfl, by omega, ht, hl, fun t0 H0 s0 k0 => ?_⟩
    rw [md_id hb] at k0
    refine ⟨t0, rfl, ⟨_, SqT.of k0⟩, fun D hD => lc_tup (xs := l.map V.int) (fun j H' => Same H0 H' ∧ H' D = some (.lst ((nz (l.take j)).map V.int))) ⟨same_upd0 hD, upd_same⟩ (fun j H' _ hP => SqT.of (hP.1 _ _ k0)) (fun j x H' hx hP => ?_) (fun H1 hP => ?_)⟩
    · obtain ⟨sH, hL⟩ := hP
      obtain ⟨hj, rfl⟩ := int_get hx
      refine ⟨rfl, _, rfl, rfl, _, rfl, ?_⟩
      unfold nz at hL ⊢
      rw [take_snoc hj, List.filter_append]
      by_cases d : co l j = 0
      · rw [decide_eq_true (show V.int (co l j) = V.int 0 by rw [d])]
        refine iteF ⟨sH, ?_⟩
        rw [hL, List.filter_cons_of_neg (by rw [d]; decide), List.filter_nil, List.append_nil]
      · rw [decide_eq_false fun z => d (V.int.inj z)]
        refine iteT ⟨_, rfl, _, hL, ?_, fun b o e => ?_, ?_⟩
        · have h1 := List.length_filter_le (fun x => x != 0) (l.take j)
          rw [List.length_take] at h1
          rw [List.length_map]
          exact small1000 (by omega)
        · rw [upd_ne (ne_of_none e hD)]
          exact sH _ _ e
        · rw [upd_same, List.filter_cons_of_pos (by simpa using d), List.filter_nil, List.map_append]
          rfl
    · obtain ⟨s1, hL⟩ := hP
      rw [List.length_map, List.take_length] at hL
      have ht1 := s1 _ _ (s0 _ _ ht)
      refine ⟨_, rfl, by show 0 ≤ sizeLine; exact Nat.zero_le _, fun E0 nE => gen_upd H1 E0 (.lst []) nE fun H2 s2 f2 => eq_lints (ys := []) (SqL.of (s2 _ _ hL)) (SqL.of f2) ?_⟩
      have ht2 := s2 _ _ ht1
      have s02 := s0.trans (s1.trans s2)
      cases e : nz l with
      | nil =>
        rw [decide_eq_true rfl]
        refine ⟨true, rfl, iteT ⟨_, rfl, _, rfl, t, l, p, rfl, by omega, ht2, hl, fun t3 H3 s3 k3 => q t3 H3 (s02.trans s3) ?_⟩⟩
        rw [md_id hb] at k3
        unfold plR
        rw [e]
        exact k3
      | cons x r =>
        rw [decide_eq_false (by simp)]
        have hx : x ∈ nz l := by rw [e]; exact List.mem_cons_self
        obtain ⟨hxl, _⟩ := List.mem_filter.mp hx
        obtain ⟨b1, b2⟩ := hb x hxl
        have hL2 := s2 _ _ hL
        rw [e] at hL2
        have ub := und_bd p hp x.toNat (by omega)
        rw [Int.toNat_of_nonneg b1] at ub
        refine ⟨false, rfl, iteF ⟨_, rfl, _, rfl, D, _, 0, _, rfl, rfl, SqL.of hL2, atI_nat (j := 0) rfl, _, rfl, p, x, rfl, hp, ?_⟩⟩
        refine ⟨t, l, und p x, rfl, ht2, hl, fun z hz => sm_le (n := 101) (show z.natAbs ≤ 101 by have := hb z hz; omega) (by decide), sm_le (n := 101) (show (und p x).natAbs ≤ 101 by omega) (by decide), fun t3 H3 s3 n3 k3 => ⟨_, rfl, t3, _, p, rfl, by omega, k3, by rw [List.length_map]; exact hl, fun t4 H4 s4 k4 => q t4 H4 (s02.trans (s3.trans s4)) ?_⟩⟩
        rw [md_scaled] at k4
        unfold plR
        rw [e]
        exact k4
end
end K49

set_option Elab.async false
set_option linter.all false
set_option maxRecDepth 100000
set_option maxHeartbeats 4000000
namespace K49
open PySem PySem.Spec PyProof.Rows L2 StX RZ MyR SlX OwnR OwnF EnumT
/-- reduced rows -/
def Rd (p : Int) (l : List Int) : Prop := ∀ z ∈ l, 0 ≤ z ∧ z < p
theorem rd_md {p : Int} (hp : p ∈ PR) (l : List Int) : Rd p (md p l) := fun z hz => md_nonneg (by have := pr_bd hp; omega) z hz
theorem ev_eqm {p : Int} {a b : List Int} (h : md p a = md p b) (x y : Int) : ev a x y % p = ev b x y % p := by
  obtain ⟨q, hq, rfl⟩ := eqm_zs h
  rw [ev_zs p hq.symm, Int.add_mul_emod_self_left]
theorem em1 (a x p : Int) : (a % p * x) % p = a * x % p := by rw [Int.mul_emod, Int.emod_emod, ← Int.mul_emod]
theorem em2 (c b p : Int) : (c * (b % p)) % p = c * b % p := by rw [Int.mul_emod, Int.emod_emod, ← Int.mul_emod]
/-- the text -/
def ptx (p : Int) (l : List Int) : Str := Str.empty ++ Str.ofString "form " ++ Txt.join (Str.ofString " ") (ntx l) ++ Str.ofString " over " ++ Str.ofString (toString p)
theorem fw_rd {p z : Int} (hp : p ∈ PR) (h : 0 ≤ z ∧ z < p) : z.natAbs.log2 < 1920 := by
  obtain ⟨p1, p2⟩ := pr_bd hp
  exact Nat.lt_trans (PySem.Flt.log2_lt_of (k := 7) (by decide) (show z.natAbs < 2 ^ 7 by omega)) (by decide)
theorem sum_rd {p : Int} (hp : p ∈ PR) : ∀ {l : List Int}, Rd p l → ((ntx l).map (·.length)).sum ≤ l.length * 1921
  | [], _ => Nat.zero_le _
  | x :: xs, h => by
    have h1 := sum_rd hp (l := xs) fun y hy => h y (List.mem_cons_of_mem _ hy)
    have h2 := int_text_len_1921 (fw_rd hp (h x List.mem_cons_self))
    show (Str.ofString (toString x)).length + ((ntx xs).map (·.length)).sum ≤ (xs.length + 1) * 1921
    rw [Nat.succ_mul]
    omega
section
variable {P : Program} {w : World} {K : PySem.W.Frag} {mg : Str → Option Value} {base : Heap}
def spPPrime (C : Addr) : Sp := fun vs H Q _ => ∃ (a : Addr) (p : Int) (ns : List Int), vs = [.ref a] ∧ Fp C H a p ns ∧ Q (.int p) H
theorem ok_PrimeForm_prime (T : Facts K mg) : FnOk P w K mg base CX0 1 T.f_PrimeForm_prime T.fd_PrimeForm_prime ["self"] (spPPrime T.C_PrimeForm) := by
  refine T.F_PrimeForm_prime.ok sc_PrimeForm_prime (fun vs H Q E h => ?_) (fun cdv A outer s H vs Q E hr h => ?_)
  · obtain ⟨a, p, ns, rfl, _⟩ := h
    rfl
  · obtain ⟨a, p, ns, rfl, fa, q⟩ := h
    obtain ⟨dx, t, ha, ht⟩ := fa.slt
    refine ⟨_, (PSs.nox (pss_one (ps_ret (pe_sl (pv 0))))), ?_⟩
    exact ⟨_, rfl, a, T.C_PrimeForm, dx, T.a_own_prime, _, 1, .int p, rfl, ha, T.oc_PrimeForm.scl, T.sl_own_prime, rfl, q⟩
def spPPlain (C : Addr) : Sp := fun vs H Q _ => ∃ (a : Addr) (p : Int) (l : List Int), vs = [.ref a] ∧ Fp C H a p l ∧ p ∈ PR ∧ Rd p l ∧ 1 ≤ l.length ∧ l.length ≤ 13 ∧ ∀ q H', Same H H' → Fp C H' q p (plR p l) → Q (.ref q) H'
theorem ok_PrimeForm_plain (T : Facts K mg) : FnOk P w K mg base CX0 6 T.f_PrimeForm_plain T.fd_PrimeForm_plain ["self"] (spPPlain T.C_PrimeForm) := by
  have G_plain_row := ok_plain_row (P := P) (w := w) (base := base) T
  have G_PrimeForm_init := ok_PrimeForm_init (P := P) (w := w) (base := base) T
  refine T.F_PrimeForm_plain.ok sc_PrimeForm_plain (fun vs H Q E h => ?_) (fun cdv A outer s H vs Q E hr h => ?_)
  · obtain ⟨a, p, ns, rfl, _⟩ := h
    rfl
  · obtain ⟨a, p, l, rfl, fa, hp, hb, l1, l13, q⟩ := h
    obtain ⟨dx, t, ha, ht⟩ := fa.slt
    obtain ⟨p1, p2⟩ := pr_bd hp
    refine ⟨_, (PSs.nox (pss_one (ps_ret (pe_make T.mk_PrimeForm G_PrimeForm_init (hr.mono (by decide)) (by rfl) T.g_PrimeForm T.b_PrimeForm_init .nil pass0 (pa_cons (pe_sl (pv 0)) (pa_cons (pe_call G_plain_row (hr.mono (by decide)) (by rfl) T.g_plain_row T.F_plain_row.kp T.b_plain_row .nil pass0 (pa_cons (pe_sl (pv 0)) (pa_cons (pe_sl (pv 0)) pa_nil))) pa_nil)))))), ?_⟩
    refine ⟨_, rfl, a, T.C_PrimeForm, dx, T.a_own_prime, _, 1, .int p, rfl, ha, T.oc_PrimeForm.scl, T.sl_own_prime, rfl, _, rfl, a, T.C_PrimeForm, dx, T.a_own_prime, _, 1, .int p, rfl, ha, T.oc_PrimeForm.scl, T.sl_own_prime, rfl, _, rfl, a, T.C_PrimeForm, dx, T.a_PrimeForm_own_entries, _, 0, .ref t, rfl, ha, T.oc_PrimeForm.scl, T.sl_PrimeForm_own_entries, rfl, t, l, p, rfl, hp, ht, hb, by omega, fun t2 H2 s2 k2 => ?_⟩
    have rp := plR_red (show 0 < p by omega) hb
    refine fun x dx x1 x2 x3 => mkP x1 x2 x3 k2 hp (by rw [plR_len]; exact l1) (by rw [plR_len]; exact l13) (fun z hz => Nat.lt_of_le_of_lt (show z.natAbs ≤ 101 by have := rp z hz; omega) (by decide)) fun H4 s4 f4 => ?_
    rw [md_id rp] at f4
    exact q x H4 (s2.trans s4) f4
def spPEq (C : Addr) : Sp := fun vs H Q _ => ∃ (a b : Addr) (p : Int) (xs : List Int), vs = [.ref a, .ref b] ∧ Fp C H a p xs ∧ ((∃ p' ys, Fp C H b p' ys ∧ Q (.bl (decide (p = p') && decide (xs = ys))) H) ∨ ∃ ys, H b = some (tp ys) ∧ Q (.bl false) H)
theorem ok_PrimeForm_eq (T : Facts K mg) : FnOk P w K mg base CX0 1 T.f_PrimeForm_eq T.fd_PrimeForm_eq ["self", "other"] (spPEq T.C_PrimeForm) := by
  refine T.F_PrimeForm_eq.ok sc_PrimeForm_eq (fun vs H Q E h => ?_) (fun cdv A outer s H vs Q E hr h => ?_)
  · obtain ⟨a, b, p, xs, rfl, _⟩ := h
    rfl
  · obtain ⟨a, b, p, xs, rfl, fa, h⟩ := h
    obtain ⟨dx, t, ha, ht⟩ := fa.slt
    refine ⟨_, (PSs.nox (pss_cons (ps_if (pt_not (pt_val (pe_callB (call_isiF T.C_PrimeForm) (by rfl) T.z_isinstance (by decide +kernel) (pa_cons (pv 1) (pa_cons (pe_glob (v := .ref T.C_PrimeForm) (by rfl) T.g_PrimeForm rfl) pa_nil)))))
      (pss_one (ps_ret pe_bl))
      pss_nil)
    (pss_one (ps_ret (pe_and (pe_cmpR op_eq (pe_sl (pv 0)) (pe_sl (pv 1)) (nomark _)) (pe_one (pe_cmpR (op_eqD (hu64 hr)) (pe_sl (pv 0)) (pe_sl (pv 1)) (nomark _)))))))), ?_⟩
    rcases h with ⟨p', ys, fb, q⟩ | ⟨ys, hb, q⟩
    · obtain ⟨dy, u, hb, hu⟩ := fb.slt
      refine ⟨_, rfl, .inr ⟨b, T.C_PrimeForm, dy, _, .ref T.C_PrimeForm, true, rfl, rfl, fun w r => r, hb, T.oc_PrimeForm.scl, T.oc_PrimeForm.sis, T.oc_PrimeForm.kself, true, rfl, iteF ?_⟩⟩
      refine ⟨_, rfl, a, T.C_PrimeForm, dx, T.a_own_prime, _, 1, .int p, rfl, ha, T.oc_PrimeForm.scl, T.sl_own_prime, rfl, _, rfl, b, T.C_PrimeForm, dy, T.a_own_prime, _, 1, .int p', rfl, hb, T.oc_PrimeForm.scl, T.sl_own_prime, rfl, rfl, decide (p = p'), ?_, ?_⟩
      · congr 1
        by_cases c : p = p'
        · rw [decide_eq_true c, decide_eq_true (by rw [c])]
        · rw [decide_eq_false c, decide_eq_false (fun y => c (V.int.inj y))]
      by_cases c : p = p'
      · rw [decide_eq_true c] at q ⊢
        rw [Bool.true_and] at q
        refine iteT ⟨_, rfl, a, T.C_PrimeForm, dx, T.a_PrimeForm_own_entries, _, 0, .ref t, rfl, ha, T.oc_PrimeForm.scl, T.sl_PrimeForm_own_entries, rfl, _, rfl, b, T.C_PrimeForm, dy, T.a_PrimeForm_own_entries, _, 0, .ref u, rfl, hb, T.oc_PrimeForm.scl, T.sl_PrimeForm_own_entries, rfl, ?_⟩
        exact eq_ints (SqT.of ht) (SqT.of hu) q
      · rw [decide_eq_false c] at q ⊢
        exact iteF q
    · refine ⟨_, rfl, .inl ⟨.ref b, .ref T.C_PrimeForm, .type "tuple", .ref T.C_PrimeForm, false, rfl, .own _, .base (.tup hb), T.oc_PrimeForm.ktup, false, rfl, iteT q⟩⟩
def spPStr (C : Addr) : Sp := fun vs H Q _ => ∃ (a : Addr) (p : Int) (l : List Int), vs = [.ref a] ∧ Fp C H a p l ∧ p ∈ PR ∧ Rd p l ∧ l.length ≤ 100 ∧ ∀ H', Same H H' → Q (.str (ptx p l)) H'
theorem ok_PrimeForm_str (T : Facts K mg) : FnOk P w K mg base CX0 1 T.f_PrimeForm_str T.fd_PrimeForm_str ["self"] (spPStr T.C_PrimeForm) := by
  refine T.F_PrimeForm_str.ok sc_PrimeForm_str (fun vs H Q E h => ?_) (fun cdv A outer s H vs Q E hr h => ?_)
  · obtain ⟨a, p, xs, rfl, _⟩ := h
    rfl
  · obtain ⟨a, p, xs, rfl, fa, hp, hb, hlen, q⟩ := h
    obtain ⟨p1, p2⟩ := pr_bd hp
    obtain ⟨dx, t, ha, ht⟩ := fa.slt
    refine ⟨_, (PSs.nox (pss_cons (ps_set (i := 1) sc_PrimeForm_str.nd rfl (.inl rfl) (pe_join pe_str (pe_lc (own := [("entry", 2)]) (g := (gName 2)) (tt := tYes) (by rfl) sc_PrimeForm_str.nd (pi_tup (pe_sl (pv 0))) (blkOk_by (N := N_PrimeForm_str) (sc := defScope s_PrimeForm_str) (by decide +kernel)) (fun _ _ _ _ _ => (pg_name (i := 2) sc_PrimeForm_str.nd rfl (.inl rfl))) (fun _ _ _ _ _ => pts_nil) (fun _ _ _ _ _ => (pe_callTy call_str_int (by rfl) T.z_str (by decide +kernel) (pa_cons (pv 2) pa_nil))))))
    (pss_one (ps_ret (pe_joined (.cons pe_str (.cons (pe_fmt (pv 1)) (.cons pe_str (.cons (pe_fmt (pe_sl (pv 0))) .nil))))))))), ?_⟩
    have l5 : (Str.ofString "form ").length = 5 := by decide +kernel
    have l6 : (Str.ofString " over ").length = 6 := by decide +kernel
    have l1 : (Str.ofString " ").length = 1 := by decide +kernel
    have hsum := sum_rd hp hb
    refine ⟨⟨_, rfl⟩, _, rfl, a, T.C_PrimeForm, dx, T.a_PrimeForm_own_entries, _, 0, .ref t, rfl, ha, T.oc_PrimeForm.scl, T.sl_PrimeForm_own_entries, rfl, t, rfl, ⟨_, SqT.of ht⟩, fun D hD => lc_tup (xs := xs.map V.int) (fun j H' => H' = upd H D (.lst ((ntx (xs.take j)).map V.str))) rfl (fun j H' _ hP => ?_) (fun j x H' hx hP => ?_) (fun H' hP => ?_)⟩
    · rw [hP]
      exact SqT.of (same_upd0 hD _ _ ht)
    · subst hP
      obtain ⟨hj, rfl⟩ := int_get hx
      refine ⟨rfl, _, rfl, _, rfl, fw_rd hp (by rw [co_get hj]; exact hb _ (List.getElem_mem hj)), _, upd_same, ?_, ?_⟩
      · unfold ntx
        rw [List.length_map, List.length_map, List.length_take]
        exact small1000 (by omega)
      · rw [upd_upd, take_snoc hj]
        unfold ntx
        rw [List.map_append, List.map_append]
        rfl
    · subst hP
      rw [List.length_map, List.take_length]
      have hntx : (ntx xs).length = xs.length := by unfold ntx; rw [List.length_map]
      have hj := join_le (Str.ofString " ") (ntx xs)
      rw [hntx, l1] at hj
      have hz : (16777216 : Nat) ≤ sizeLine := by decide
      have sH := same_upd0 (o := .lst ((ntx xs).map V.str)) hD
      have h2 := int_text_len_1921 (i := p) (Nat.lt_trans (PySem.Flt.log2_lt_of (k := 7) (by decide) (show p.natAbs < 2 ^ 7 by omega)) (by decide))
      refine ⟨Str.ofString " ", D, ntx xs, rfl, rfl, .inl (SqL.of upd_same), by rw [hntx, l1]; omega, ?_⟩
      refine ⟨Str.ofString "form ", rfl, ?_, _, rfl, .inl ⟨_, rfl, by omega, _, rfl, ?_, Str.ofString " over ", rfl, ?_, _, rfl, a, T.C_PrimeForm, dx, T.a_own_prime, _, 1, .int p, rfl, Slt.same ha sH, T.oc_PrimeForm.scl, T.sl_own_prime, rfl, .inr ⟨p, rfl, (Nat.lt_trans (PySem.Flt.log2_lt_of (k := 7) (by decide) (show p.natAbs < 2 ^ 7 by omega)) (by decide)), _, rfl, ?_, q _ sH⟩⟩⟩
      all_goals
        simp only [lenApp, l5, l6, show Str.empty.length = 0 from rfl]
        omega
/-- a form's value modulo p -/
def spPVal (C : Addr) : Sp := fun vs H Q _ => ∃ (a : Addr) (p : Int) (l : List Int) (x y : Int), vs = [.ref a, .int x, .int y] ∧ Fp C H a p l ∧ p ∈ PR ∧ Rd p l ∧ Sho x ∧ Sho y ∧ l.length ≤ 100 ∧ ∀ H', Same H H' → Q (.int (ev l x y % p)) H'
theorem ok_value_modulo (T : Facts K mg) : FnOk P w K mg base CX0 1 T.f_value_modulo T.fd_value_modulo ["form", "x", "y"] (spPVal T.C_PrimeForm) := by
  refine T.F_value_modulo.ok sc_value_modulo (fun vs H Q E h => ?_) (fun cdv A outer s H vs Q E hr h => ?_)
  · obtain ⟨a, p, l, x, y, rfl, _⟩ := h
    rfl
  · obtain ⟨a, p, l, x, y, rfl, fa, hp, hb, hx, hy, hl, q⟩ := h
    obtain ⟨p1, p2⟩ := pr_bd hp
    refine ⟨_, (PSs.nox (pss_cons (ps_asg (pe_tup (pa_cons pe_int (pa_cons pe_int pa_nil))) (pg_tup (by rfl) (pgs_cons (pg_name (i := 3) sc_value_modulo.nd rfl (.inl rfl)) (pgs_cons (pg_name (i := 4) sc_value_modulo.nd rfl (.inl rfl)) pgs_nil))))
    (pss_cons (ps_for PassesOwn.never (by rfl) (pi_tup (pe_sl (pv 0))) (pg_name (i := 5) sc_value_modulo.nd rfl (.inl rfl))
      (pss_one (ps_par (i := 3) (j := 4) (by rfl) sc_value_modulo.nd rfl rfl (by decide) rfl rfl (pa_cons (pe_op op_mod (pe_op op_add (pe_op op_mulW (pv 3) (pv 1)) (pe_op op_mulW (pv 5) (pv 4))) (pe_sl (pv 0))) (pa_cons (pe_op op_mod (pe_op op_mulW (pv 4) (pv 2)) (pe_sl (pv 0))) pa_nil)) (by rfl))))
    (pss_one (ps_ret (pv 3)))))), ?_⟩
    refine ⟨by show 2 ≤ sizeLine; decide, fun p0 n0 => gen_upd H p0 (.tup [.int 0, .int 1]) n0 fun H1 s1 f1 => ⟨p0, _, rfl, SqT.of f1, rfl, _, _, rfl, _, _, rfl, rfl, ?_⟩⟩
    have fa1 := fa.same s1
    obtain ⟨dx, t, ha, ht⟩ := fa1.slt
    have sx : sm x := Nat.lt_trans hx (by decide)
    have sy : sm y := Nat.lt_trans hy (by decide)
    have bm : ∀ z : Int, 0 ≤ z % p ∧ z % p < p := fun z => ⟨Int.emod_nonneg _ (by omega), Int.emod_lt_of_pos _ (by omega)⟩
    have sr : ∀ z : Int, sm (z % p) := fun z => sm_le (n := 101) (show (z % p).natAbs ≤ 101 by have := bm z; omega) (by decide)
    refine ⟨_, rfl, a, T.C_PrimeForm, dx, T.a_PrimeForm_own_entries, _, 0, .ref t, rfl, ha, T.oc_PrimeForm.scl, T.sl_PrimeForm_own_entries, rfl, t, rfl, ⟨_, SqT.of ht⟩, for_tup (xs := l.map V.int) (fun i σ H' => ∃ y5, σ = [some (.ref a), some (.int x), some (.int y), some (.int ((vfs x y l i).1 % p)), some (.int ((vfs x y l i).2 % p)), y5] ∧ H' = H1) ⟨none, ?_, rfl⟩ (fun i σ H' _ hP => by rw [hP.choose_spec.2]; exact SqT.of ht) (fun i z σ H' hz hP => ?_) (fun σ H' hP => ?_)⟩
    · show [some (V.ref a), some (V.int x), some (V.int y), some (V.int 0), some (V.int 1), none] = [some (V.ref a), some (V.int x), some (V.int y), some (V.int (0 % p)), some (V.int (1 % p)), none]
      rw [Int.zero_emod, Int.emod_eq_of_lt (by decide) (by omega)]
    · obtain ⟨y5, rfl, rfl⟩ := hP
      obtain ⟨hi, rfl⟩ := int_get hz
      have sc : sm (co l i) := sm_le (n := 101) (show (co l i).natAbs ≤ 101 by rw [co_get hi]; have := hb _ (List.getElem_mem hi); omega) (by decide)
      refine ⟨_, rfl, _, rfl, _, _, rfl, rfl, sm_mul (sr _) sx, _, rfl, _, rfl, _, _, rfl, rfl, sm_mul sc (sr _), _, _, rfl, rfl, _, rfl, a, T.C_PrimeForm, dx, T.a_own_prime, _, 1, .int p, rfl, ha, T.oc_PrimeForm.scl, T.sl_own_prime, rfl, _, _, rfl, rfl, (by show 0 < p; omega), _, rfl, _, rfl, _, _, rfl, rfl, sm_mul (sr _) sy, _, rfl, a, T.C_PrimeForm, dx, T.a_own_prime, _, 1, .int p, rfl, ha, T.oc_PrimeForm.scl, T.sl_own_prime, rfl, _, _, rfl, rfl, (by show 0 < p; omega), _, _, rfl, some (.int (co l i)), ?_, rfl⟩
      show [some (V.ref a), some (V.int x), some (V.int y), some (V.int (((vfs x y l i).1 % p * x + co l i * ((vfs x y l i).2 % p)) % p)), some (V.int ((vfs x y l i).2 % p * y % p)), some (V.int (co l i))] = [some (V.ref a), some (V.int x), some (V.int y), some (V.int (((vfs x y l i).1 * x + co l i * (vfs x y l i).2) % p)), some (V.int ((vfs x y l i).2 * y % p)), some (V.int (co l i))]
      rw [em1 (vfs x y l i).2, Int.add_emod, em1, em2, ← Int.add_emod]
    · obtain ⟨y5, rfl, rfl⟩ := hP
      rw [List.length_map]
      refine ⟨_, rfl, ?_⟩
      rw [vfs_ev]
      exact q _ s1
theorem ok_PrimeForm_value (T : Facts K mg) : FnOk P w K mg base CX0 3 T.f_PrimeForm_value T.fd_PrimeForm_value ["self", "x", "y"] (spPVal T.C_PrimeForm) := by
  have G_is_short := ok_is_short (P := P) (w := w) (base := base) T
  have G_value_modulo := ok_value_modulo (P := P) (w := w) (base := base) T
  refine T.F_PrimeForm_value.ok sc_PrimeForm_value (fun vs H Q E h => ?_) (fun cdv A outer s H vs Q E hr h => ?_)
  · obtain ⟨a, p, l, x, y, rfl, _⟩ := h
    rfl
  · obtain ⟨a, p, l, x, y, rfl, fa, hp, hb, hx, hy, hl, q⟩ := h
    refine ⟨_, (PSs.nox (pss_cons (ps_for PassesOwn.never (by rfl) (pi_tup (pe_tup (pa_cons (pv 1) (pa_cons (pv 2) pa_nil)))) (pg_name (i := 3) sc_PrimeForm_value.nd rfl (.inl rfl))
      (pss_one (ps_if (pt_not (pt_val (pe_call G_is_short hr (by rfl) T.g_is_short T.F_is_short.kp T.b_is_short .nil pass0 (pa_cons (pv 3) pa_nil))))
        (pss_one ps_never)
        pss_nil)))
    (pss_one (ps_ret (pe_call G_value_modulo (hr.mono (by decide)) (by rfl) T.g_value_modulo T.F_value_modulo.kp T.b_value_modulo .nil pass0 (pa_cons (pv 0) (pa_cons (pv 1) (pa_cons (pv 2) pa_nil)))))))), ?_⟩
    refine ⟨_, rfl, _, rfl, by show 2 ≤ sizeLine; decide, fun p0 n0 => gen_upd H p0 (tp [x, y]) n0 fun H1 s1 f1 => ⟨p0, rfl, ⟨_, SqT.of f1⟩, for_tup (xs := [V.int x, V.int y]) (fun i σ H' => ∃ y5, σ = [some (.ref a), some (.int x), some (.int y), y5] ∧ H' = H1) ⟨none, rfl, rfl⟩ (fun i σ H' _ hP => by rw [hP.choose_spec.2]; exact SqT.of f1) (fun i z σ H' hz hP => ?_) (fun σ H' hP => ?_)⟩⟩
    · obtain ⟨y5, rfl, rfl⟩ := hP
      obtain ⟨v, rfl, hv⟩ : ∃ v, z = .int v ∧ Sho v := by
        have := List.mem_of_getElem? hz
        simp only [List.mem_cons, List.not_mem_nil, or_false] at this
        rcases this with e | e
        · exact ⟨x, e, hx⟩
        · exact ⟨y, e, hy⟩
      exact ⟨_, rfl, v, rfl, hv, true, rfl, iteF ⟨_, rfl, rfl⟩⟩
    · obtain ⟨y5, rfl, rfl⟩ := hP
      exact ⟨_, rfl, _, rfl, _, rfl, a, p, l, x, y, rfl, fa.same s1, hp, hb, hx, hy, hl, fun H2 s2 => q H2 (s1.trans s2)⟩
end
end K49

set_option Elab.async false
set_option linter.all false
set_option maxRecDepth 100000
set_option maxHeartbeats 4000000
namespace K49
open PySem PySem.Spec PyProof.Rows L2 StX RZ MyR SlX OwnR OwnF EnumT
theorem Fp.sl {C a : Addr} {H : Hp} {p : Int} {ns : List Int} (h : Fp C H a p ns) : ∃ dx vs, Slt H a C dx vs := by
  obtain ⟨dx, t, h1, _⟩ := h.slt
  exact ⟨dx, _, h1⟩
theorem mp {C a : Addr} {H : Hp} {p : Int} {ns : List Int} {R : Prop} (h : Fp C H a p ns) (r : R) : ∃ a' dx vs, V.ref a = .ref a' ∧ Slt H a' C dx vs ∧ R := by
  obtain ⟨dx, t, h1, _⟩ := h.slt
  exact ⟨a, dx, _, rfl, h1, r⟩
theorem Fp.sx {C a d : Addr} {H H' : Hp} {p : Int} {ns : List Int} (h : Fp C H a p ns) (hd : Dc H d) (s : Sx d H H') : Fp C H' a p ns := by
  obtain ⟨dx, t, h1, h2, h3⟩ := h
  obtain ⟨x, y, z, e⟩ := hd
  refine ⟨dx, t, s _ _ (fun q => ?_) h1, s _ _ (fun q => ?_) h2, s _ _ (fun q => ?_) h3⟩
  · rw [q, e] at h1
    cases h1
  · rw [q, e] at h2
    cases h2
  · rw [q, e] at h3
    cases h3
theorem eq_prime {X : Cx} {C a b : Addr} {H : Hp} {p p' : Int} {xs ys : List Int} {Q : VK} (c : OC X.K C) (fa : Fp C H a p xs) (fb : Fp C H b p' ys) (q : Q (.bl (decide (p = p') && decide (xs = ys))) H) : rEqO X C (spPEq C) E0 (.ref a) (.ref b) H Q := by
  obtain ⟨dx, t, ha, _⟩ := fa.slt
  obtain ⟨dy, u, hb, _⟩ := fb.slt
  exact ⟨a, dx, _, .ref C, rfl, ha, .inst hb, notFirst_self, a, b, p, xs, rfl, fa, .inl ⟨p', ys, fb, q⟩⟩
theorem ne_prime {X : Cx} {C a b : Addr} {H : Hp} {p p' : Int} {xs ys : List Int} {Q : VK} (c : OC X.K C) (fa : Fp C H a p xs) (fb : Fp C H b p' ys) (q : Q (.bl (!(decide (p = p') && decide (xs = ys)))) H) : rNeO X C (spPEq C) E0 (.ref a) (.ref b) H Q := by
  obtain ⟨dx, t, ha, _⟩ := fa.slt
  obtain ⟨dy, u, hb, _⟩ := fb.slt
  exact ⟨a, dx, _, .ref C, rfl, ha, .inst hb, notFirst_self, a, b, p, xs, rfl, fa, .inl ⟨p', ys, fb, _, rfl, q⟩⟩
theorem ne_primeT {X : Cx} {C a t : Addr} {H : Hp} {p : Int} {xs ys : List Int} {Q : VK} (c : OC X.K C) (fa : Fp C H a p xs) (ht : H t = some (tp ys)) (q : Q (.bl true) H) : rNeO X C (spPEq C) E0 (.ref a) (.ref t) H Q := by
  obtain ⟨dx, u, ha, _⟩ := fa.slt
  exact ⟨a, dx, _, .type "tuple", rfl, ha, .plain (.tup (SqT.of ht)), c.ntup, a, t, p, xs, rfl, fa, .inr ⟨ys, ht, _, rfl, q⟩⟩
theorem prop_pprime {C a : Addr} {H : Hp} {p : Int} {xs : List Int} {Q : VK} (fa : Fp C H a p xs) (q : Q (.int p) H) : ∃ a' dx vs, V.ref a = .ref a' ∧ Slt H a' C dx vs ∧ spPPrime C [.ref a'] H Q E0 := by
  obtain ⟨dx, t, ha, _⟩ := fa.slt
  exact ⟨a, dx, _, rfl, ha, a, p, xs, rfl, fa, q⟩
theorem prop_pplain {C a : Addr} {H : Hp} {p : Int} {l : List Int} {Q : VK} (fa : Fp C H a p l) (hp : p ∈ PR) (hb : Rd p l) (l1 : 1 ≤ l.length) (l13 : l.length ≤ 13) (q : ∀ q H', Same H H' → Fp C H' q p (plR p l) → Q (.ref q) H') : ∃ a' dx vs, V.ref a = .ref a' ∧ Slt H a' C dx vs ∧ spPPlain C [.ref a'] H Q E0 := by
  obtain ⟨dx, t, ha, _⟩ := fa.slt
  exact ⟨a, dx, _, rfl, ha, a, p, l, rfl, fa, hp, hb, l1, l13, q⟩
section
variable {P : Program} {w : World} {K : PySem.W.Frag} {mg : Str → Option Value} {base : Heap}
def spTold49 (C : Addr) : Sp := fun vs H Q _ => ∃ (a t : Addr) (p : Int) (l : List Int), vs = [.ref a, .int p, .ref t] ∧ Fp C H a p (md p l) ∧ p ∈ PR ∧ H t = some (tp l) ∧ 1 ≤ l.length ∧ l.length ≤ 13 ∧ ∀ H', Same H H' → Q (.bl true) H'
theorem ok_law_is_told (T : Facts K mg) : FnOk P w K mg base CX0 8 T.f_law_is_told T.fd_law_is_told ["_law_form_here", "_law_prime", "_law_entries"] (spTold49 T.C_PrimeForm) := by
  have G_law_left_by := ok_law_left_by (P := P) (w := w) (base := base) T
  have G_law_shared := ok_law_shared (P := P) (w := w) (base := base) T
  have G_law_first_one := ok_law_first_one (P := P) (w := w) (base := base) T
  have G_PrimeForm_prime := ok_PrimeForm_prime (P := P) (w := w) (base := base) T
  have G_PrimeForm_entries := ok_PrimeForm_entries (P := P) (w := w) (base := base) T
  have G_PrimeForm_degree := ok_PrimeForm_degree (P := P) (w := w) (base := base) T
  have G_PrimeForm_is_zero := ok_PrimeForm_is_zero (P := P) (w := w) (base := base) T
  have G_PrimeForm_plain := ok_PrimeForm_plain (P := P) (w := w) (base := base) T
  have G_PrimeForm_str := ok_PrimeForm_str (P := P) (w := w) (base := base) T
  have G_PrimeForm_eq := ok_PrimeForm_eq (P := P) (w := w) (base := base) T
  have G_PrimeForm_init := ok_PrimeForm_init (P := P) (w := w) (base := base) T
  refine T.F_law_is_told.ok sc_law_is_told (fun vs H Q E h => ?_) (fun cdv A outer s H vs Q E hr h => ?_)
  · obtain ⟨a, t, p, l, rfl, _⟩ := h
    rfl
  · obtain ⟨a, t, p, l, rfl, fa, hp, ht, l1, l13, q⟩ := h
    obtain ⟨p1, p2⟩ := pr_bd hp
    refine ⟨_, (PSs.nox (pss_cons (ps_set (i := 3) sc_law_is_told.nd rfl (.inl rfl) (pe_call G_law_left_by (hr.mono (by decide)) (by rfl) T.g_law_left_by T.F_law_left_by.kp T.b_law_left_by .nil pass0 (pa_cons (pv 2) (pa_cons (pv 1) pa_nil))))
    (pss_cons (ps_if (pw_or (pt_cmpR op_ne (pe_prp (pv 0) T.oc_PrimeForm T.pr_PrimeForm_prime G_PrimeForm_prime T.b_PrimeForm_prime (hr.mono (by decide))) (pv 1) (nomark _)) (pw_or (pt_cmpR (op_neD (hu64 hr)) (pe_prp (pv 0) T.oc_PrimeForm T.pr_PrimeForm_entries G_PrimeForm_entries T.b_PrimeForm_entries (hr.mono (by decide))) (pv 3) (nomark _)) (pw_or (pt_cmpR op_ne (pe_prp (pv 0) T.oc_PrimeForm T.pr_PrimeForm_degree G_PrimeForm_degree T.b_PrimeForm_degree (hr.mono (by decide))) (pe_op op_sub (pe_callB call_len_seq (by rfl) T.z_len (by decide +kernel) (pa_cons (pv 3) pa_nil)) pe_int) (nomark _)) (pw_or1 (pt_cmpR op_ne (pe_callB call_reprB (by rfl) T.z_repr (by decide +kernel) (pa_cons (pe_prp (pv 0) T.oc_PrimeForm T.pr_PrimeForm_is_zero G_PrimeForm_is_zero T.b_PrimeForm_is_zero (hr.mono (by decide))) pa_nil)) (pe_callB call_reprB (by rfl) T.z_repr (by decide +kernel) (pa_cons (pe_cmpR op_eq (pe_call G_law_shared (hr.mono (by decide)) (by rfl) T.g_law_shared T.F_law_shared.kp T.b_law_shared .nil pass0 (pa_cons (pv 3) pa_nil)) pe_int (nomark _)) pa_nil)) (nomark _)))))).pt
      (pss_one (ps_ret pe_bl))
      pss_nil)
    (pss_cons (ps_if (pw_or (pt_cmpR (op_neF T.oc_PrimeForm T.mt_PrimeForm_eq G_PrimeForm_eq T.b_PrimeForm_eq (hr.mono (by decide))) (pe_prp (pv 0) T.oc_PrimeForm T.pr_PrimeForm_plain G_PrimeForm_plain T.b_PrimeForm_plain (hr.mono (by decide))) (pe_make T.mk_PrimeForm G_PrimeForm_init (hr.mono (by decide)) (by rfl) T.g_PrimeForm T.b_PrimeForm_init .nil pass0 (pa_cons (pv 1) (pa_cons (pe_call G_law_first_one (hr.mono (by decide)) (by rfl) T.g_law_first_one T.F_law_first_one.kp T.b_law_first_one .nil pass0 (pa_cons (pv 3) (pa_cons (pv 1) pa_nil))) pa_nil))) (nomark _)) (pw_or1 (pt_cmpR (op_neD (hu64 hr)) (pe_prp (pe_prp (pe_prp (pv 0) T.oc_PrimeForm T.pr_PrimeForm_plain G_PrimeForm_plain T.b_PrimeForm_plain (hr.mono (by decide))) T.oc_PrimeForm T.pr_PrimeForm_plain G_PrimeForm_plain T.b_PrimeForm_plain (hr.mono (by decide))) T.oc_PrimeForm T.pr_PrimeForm_entries G_PrimeForm_entries T.b_PrimeForm_entries (hr.mono (by decide))) (pe_call G_law_first_one (hr.mono (by decide)) (by rfl) T.g_law_first_one T.F_law_first_one.kp T.b_law_first_one .nil pass0 (pa_cons (pv 3) (pa_cons (pv 1) pa_nil))) (nomark _)))).pt
      (pss_one (ps_ret pe_bl))
      pss_nil)
    (pss_cons (ps_set (i := 4) sc_law_is_told.nd rfl (.inl rfl) (pe_join pe_str (pe_op op_cat (pe_lst (pa_cons pe_str pa_nil)) (pe_lc (own := [("_law_entry", 5)]) (g := (gName 5)) (tt := tYes) (by rfl) sc_law_is_told.nd (pi_tup (pv 3)) (blkOk_by (N := N_law_is_told) (sc := defScope s_law_is_told) (by decide +kernel)) (fun _ _ _ _ _ => (pg_name (i := 5) sc_law_is_told.nd rfl (.inl rfl))) (fun _ _ _ _ _ => pts_nil) (fun _ _ _ _ _ => (pe_callTy call_str_int (by rfl) T.z_str (by decide +kernel) (pa_cons (pv 5) pa_nil)))))))
    (pss_cons (ps_if (pt_cmpR op_ne (pe_callTy (call_strF T.mt_PrimeForm_str G_PrimeForm_str T.b_PrimeForm_str (hr.mono (by decide))) (by rfl) T.z_str (by decide +kernel) (pa_cons (pv 0) pa_nil)) (pe_op op_add_str (pe_op op_add_str (pv 4) pe_str) (pe_callTy call_str_int (by rfl) T.z_str (by decide +kernel) (pa_cons (pv 1) pa_nil))) (nomark _))
      (pss_one (ps_ret pe_bl))
      pss_nil)
    (pss_one (ps_ret (pe_and (pe_cmpR (op_eqF T.mt_PrimeForm_eq G_PrimeForm_eq T.b_PrimeForm_eq (hr.mono (by decide))) (pv 0) (pe_make T.mk_PrimeForm G_PrimeForm_init (hr.mono (by decide)) (by rfl) T.g_PrimeForm T.b_PrimeForm_init .nil pass0 (pa_cons (pv 1) (pa_cons (pv 3) pa_nil))) (nomark _)) (pe_and (pe_cmpR (op_neF T.oc_PrimeForm T.mt_PrimeForm_eq G_PrimeForm_eq T.b_PrimeForm_eq (hr.mono (by decide))) (pv 0) (pv 3) (nomark _)) (pe_one (pe_cmpR (op_neF T.oc_PrimeForm T.mt_PrimeForm_eq G_PrimeForm_eq T.b_PrimeForm_eq (hr.mono (by decide))) (pv 0) (pe_make T.mk_PrimeForm G_PrimeForm_init (hr.mono (by decide)) (by rfl) T.g_PrimeForm T.b_PrimeForm_init .nil pass0 (pa_cons (pe_ifExp (pt_cmpR op_ne (pv 1) pe_int (nomark _)) pe_int pe_int) (pa_cons (pv 3) pa_nil))) (nomark _))))))))))))), ?_⟩
    refine ⟨_, rfl, _, rfl, t, l, p, rfl, by omega, ht, by omega, fun t1 H1 s1 k1 => ?_⟩
    have fa := fa.same s1
    have hb := rd_md hp l
    have hne : l ≠ [] := ne_of2 l1
    obtain ⟨m, hm⟩ : ∃ m, m = md p l := ⟨_, rfl⟩
    have lm : m.length = l.length := by rw [hm, md_len]
    rw [← hm] at hb fa k1
    have mm : md p m = m := md_id hb
    clear ht
    refine ⟨_, rfl, prop_pprime fa ⟨_, rfl, rfl, _, rfl, ?_⟩⟩
    rw [decide_eq_true rfl]
    refine iteF ⟨_, rfl, prop_pent fa fun t2 k2 => ⟨_, rfl, ne_ints (SqT.of k2) (SqT.of k1) ?_⟩⟩
    rw [decide_eq_true rfl]
    refine ⟨_, rfl, iteF ⟨_, rfl, prop_pdeg fa ⟨_, rfl, t1, _, rfl, .inr (SqT.of k1), _, _, rfl, rfl, rfl, _, rfl, ?_⟩⟩⟩
    rw [List.length_map, decide_eq_true rfl]
    have eb : decide (V.int ((cont m : Nat) : Int) = V.int 0) = !m.any (· != 0) := by
      rw [any_cont]
      exact decide_eq_decide.mpr ⟨fun h => Int.natCast_eq_zero.mp (V.int.inj h), fun h => by rw [h]; rfl⟩
    refine iteF ⟨_, rfl, prop_pzero fa ⟨_, rfl, _, rfl, t1, m, rfl, k1, rfl, _, rfl, rfl, _, rfl, ?_⟩⟩
    rw [eb, decide_eq_true rfl]
    refine iteF ?_
    -- plain
    have r1 := plR_red (show 0 < p by omega) hb
    have r2 := plR_twice hp hb
    have lr := plR_len p m
    have fp := fun {x : Addr} {H : Hp} (f : Fp T.C_PrimeForm H x p (plR p m)) => f
    refine ⟨_, rfl, prop_pplain fa hp hb (by omega) (by omega) fun a2 H2 s2 f2 => ⟨_, rfl, _, rfl, _, rfl, t1, m, p, rfl, hp, s2 _ _ k1, hb, by omega, fun t3 H3 s3 k3 => ?_⟩⟩
    refine fun x dx x1 x2 x3 => mkP x1 x2 x3 k3 hp (by omega) (by omega) (fun z hz => Nat.lt_of_le_of_lt (show z.natAbs ≤ 101 by have := r1 z hz; omega) (by decide)) fun H4 s4 f4 => ne_prime T.oc_PrimeForm (f2.same (s3.trans s4)) f4 ?_
    rw [md_id r1, decide_eq_true rfl, decide_eq_true rfl]
    have s14 := s2.trans (s3.trans s4)
    refine ⟨_, rfl, iteF ⟨_, rfl, prop_pplain (fa.same s14) hp hb (by omega) (by omega) fun a5 H5 s5 f5 => prop_pplain f5 hp r1 (by omega) (by omega) fun a6 H6 s6 f6 => prop_pent f6 fun t6 k6 => ⟨_, rfl, _, rfl, t1, m, p, rfl, hp, (s14.trans (s5.trans s6)) _ _ k1, hb, by omega, fun t7 H7 s7 k7 => ne_ints (SqT.of (s7 _ _ k6)) (SqT.of k7) ?_⟩⟩⟩
    rw [r2, decide_eq_true rfl]
    have s17 := s14.trans ((s5.trans s6).trans s7)
    refine ⟨_, rfl, iteF ?_⟩
    have fa := fa.same s17
    have k1 := s17 _ _ k1
    -- the text
    have hz : (16777216 : Nat) ≤ sizeLine := by decide
    refine ⟨⟨_, rfl⟩, by show 1 ≤ sizeLine; omega, fun p7 n7 => ⟨_, rfl, t1, rfl, ⟨_, SqT.of (same_upd0 n7 _ _ k1)⟩, fun D hD => lc_tup (xs := m.map V.int) (fun j H' => Same (upd H7 p7 (.lst [V.str (Str.ofString "form")])) H' ∧ H' D = some (.lst ((ntx (m.take j)).map V.str))) ⟨same_upd0 hD, upd_same⟩ (fun j H' _ hP => SqT.of (hP.1 _ _ (same_upd0 n7 _ _ k1))) (fun j x H' hx hP => ?_) (fun H' hP => ?_)⟩⟩
    · obtain ⟨sH, hL⟩ := hP
      obtain ⟨hj, rfl⟩ := int_get hx
      refine ⟨rfl, _, rfl, _, rfl, fw_rd hp (by rw [co_get hj]; exact hb _ (List.getElem_mem hj)), _, hL, ?_, fun b o e => ?_, ?_⟩
      · unfold ntx
        rw [List.length_map, List.length_map, List.length_take]
        exact small1000 (by omega)
      · rw [upd_ne (ne_of_none e hD)]
        exact sH _ _ e
      · rw [upd_same, take_snoc hj]
        unfold ntx
        rw [List.map_append, List.map_append]
        rfl
    · obtain ⟨sH, hL⟩ := hP
      rw [List.length_map, List.take_length] at hL
      have hntx : (ntx m).length = m.length := by unfold ntx; rw [List.length_map]
      have s8 : Same H7 H' := (same_upd0 n7).trans sH
      have h1 := sum_rd hp hb
      have l4 : (Str.ofString "form").length = 4 := by decide +kernel
      have l1' : (Str.ofString " ").length = 1 := by decide +kernel
      have l6 : (Str.ofString " over ").length = 6 := by decide +kernel
      have hj := join_le (Str.ofString " ") (Str.ofString "form" :: ntx m)
      have hsum : ((Str.ofString "form" :: ntx m).map (·.length)).sum + (Str.ofString "form" :: ntx m).length * (Str.ofString " ").length ≤ 4 + m.length * 1921 + (m.length + 1) := by
        show ((Str.ofString "form").length + ((ntx m).map (·.length)).sum) + ((ntx m).length + 1) * (Str.ofString " ").length ≤ _
        rw [l4, l1', hntx]
        omega
      have lp := int_text_len_1921 (i := p) (Nat.lt_trans (PySem.Flt.log2_lt_of (k := 7) (by decide) (show p.natAbs < 2 ^ 7 by omega)) (by decide))
      refine ⟨p7, D, _, _, rfl, rfl, sH _ _ upd_same, hL, by rw [List.length_map, hntx]; show 1 + m.length ≤ sizeLine; omega, fun p8 n8 => ?_⟩
      refine gen_upd H' p8 (.lst ((Str.ofString "form" :: ntx m).map V.str)) n8 fun H8 s9 k8 => ?_
      have fa := fa.same (s8.trans s9)
      have k1 := (s8.trans s9) _ _ k1
      refine ⟨Str.ofString " ", p8, Str.ofString "form" :: ntx m, rfl, rfl, .inl (SqL.of k8), by omega, ?_⟩
      obtain ⟨dx, u9, ha9, _⟩ := fa.slt
      refine ⟨_, rfl, a, dx, _, rfl, ha9, a, p, m, rfl, fa, hp, hb, by omega, fun H9 s10 => ⟨_, rfl, ?_⟩⟩
      have lj : (Txt.join (Str.ofString " ") (Str.ofString "form" :: ntx m)).length ≤ 4 + m.length * 1921 + (m.length + 1) := Nat.le_trans hj hsum
      refine ⟨_, rfl, _, _, rfl, rfl, by rw [l6]; omega, _, rfl, p, rfl, Nat.lt_trans (PySem.Flt.log2_lt_of (k := 7) (by decide) (show p.natAbs < 2 ^ 7 by omega)) (by decide), _, _, rfl, rfl, by rw [lenApp, l6]; omega, rfl, _, rfl, ?_⟩
      rw [decide_eq_true (show V.str (ptx p m) = V.str (Txt.join (Str.ofString " ") (Str.ofString "form" :: ntx m) ++ Str.ofString " over " ++ Str.ofString (toString p)) by
        unfold ptx
        rw [(join_form m).resolve_right (ne_of2 (by omega))])]
      have fa := fa.same s10
      have k1 := s10 _ _ k1
      have sm' : ∀ z ∈ m, Sho z := fun z hz => Nat.lt_of_le_of_lt (show z.natAbs ≤ 101 by have := hb z hz; omega) (by decide)
      refine iteF ⟨_, rfl, _, rfl, _, rfl, fun x dx x1 x2 x3 => mkP x1 x2 x3 k1 hp (by omega) (by omega) sm' fun H11 s11 f11 => eq_prime T.oc_PrimeForm (fa.same s11) f11 ?_⟩
      rw [mm, decide_eq_true rfl, decide_eq_true rfl]
      have fa := fa.same s11
      have k1 := s11 _ _ k1
      have fin : ∀ H' : Hp, Same H11 H' → Q (.bl true) H' := fun H' s => q H' (s1.trans (s17.trans ((s8.trans s9).trans (s10.trans (s11.trans s)))))
      refine ⟨true, rfl, iteT ⟨_, rfl, _, rfl, ne_primeT T.oc_PrimeForm fa k1 ⟨true, rfl, iteT ⟨_, rfl, _, rfl, rfl, _, rfl, ?_⟩⟩⟩⟩
      by_cases c : p = 13
      · rw [decide_eq_true (by rw [c])]
        refine iteF ⟨_, rfl, fun x dx x1 x2 x3 => mkP (p := 17) x1 x2 x3 k1 (by decide) (by omega) (by omega) sm' fun H12 s12 f12 => ne_prime T.oc_PrimeForm (fa.same s12) f12 ?_⟩
        rw [c]
        exact fin H12 s12
      · rw [decide_eq_false fun y => c (V.int.inj y)]
        refine iteT ⟨_, rfl, fun x dx x1 x2 x3 => mkP (p := 13) x1 x2 x3 k1 (by decide) (by omega) (by omega) sm' fun H12 s12 f12 => ne_prime T.oc_PrimeForm (fa.same s12) f12 ?_⟩
        rw [decide_eq_false c]
        exact fin H12 s12
end
end K49

set_option Elab.async false
set_option linter.all false
set_option maxRecDepth 100000
set_option maxHeartbeats 4000000
namespace K49
open PySem PySem.Spec PyProof.Rows L2 StX RZ MyR SlX OwnR OwnF EnumT
theorem st_norm {S : TS} {D : Ends} {σ : L2.St} (σ' : L2.St) {H : Hp} (e : σ = σ') (h : S D σ' H) : S D σ H := e ▸ h
theorem bd2 {a b : Int} {m : Nat} (ha : a.natAbs ≤ m) (hb : b.natAbs ≤ m) : Bd [a, b] 1 (2 * m) := bd_pair ha hb
theorem vb_of {l : List Int} {n : Nat} {x y : Int} (h : Bd l n (2 ^ 47)) (hn : n ≤ 8) (hx : x.natAbs ≤ 2 ^ 100) (hy : y.natAbs ≤ 2 ^ 100) : Vb l x y (2 ^ 100) := by
  have hl := h.len
  refine ⟨hx, hy, by decide, ?_, ?_⟩
  · refine Nat.lt_of_le_of_lt (Nat.mul_le_mul h.nm (Nat.pow_le_pow_right (by decide) (show l.length ≤ 9 by omega))) ?_
    exact Nat.lt_of_le_of_lt (Nat.le_of_eq (show 2 ^ 47 * (2 ^ 100) ^ 9 = 2 ^ 947 by rw [← Nat.pow_mul, ← Nat.pow_add])) (two_lt (by decide))
  · refine Nat.lt_of_le_of_lt (Nat.pow_le_pow_right (by decide) (show l.length + 1 ≤ 10 by omega)) ?_
    exact Nat.lt_of_le_of_lt (Nat.le_of_eq (show (2 ^ 100) ^ 10 = 2 ^ 1000 by rw [← Nat.pow_mul])) (two_lt (by decide))
theorem lchOk_of {X Y l : List Int} {n : Nat} (hX : Bd X 1 (2 ^ 68)) (hY : Bd Y 1 (2 ^ 68)) (h : Bd l n (2 ^ 47)) (hn : n ≤ 8) : LchOk X Y l := by
  have hl := h.len
  have lt38 : ∀ {i}, i ≤ 9 → (2 ^ 68) ^ i < 2 ^ 4000 := fun hi => by
    rw [← Nat.pow_mul]
    exact two_lt (by omega)
  refine ⟨h.ne, by omega, hX.len, hY.len, fun i hi => (bd_pow hX i).rw (by omega) (lt38 (by omega)), fun i hi => (bd_pow hY i).rw (by omega) (lt38 (by omega)), fun i hi => ?_, fun z hz => Nat.lt_of_le_of_lt (h.mem z hz) (two_lt (by decide))⟩
  refine (bd_ml (bd_pow hX (l.length - 1 - i)) (bd_pow hY i)).rw (by omega) ?_
  rw [← Nat.pow_add]
  exact lt38 (by omega)
/-- a product of two ints that p does not divide -/
theorem pr_mul {p : Int} (hp : p ∈ PR) {x y : Int} (hx : x % p ≠ 0) (hy : y % p ≠ 0) : (x * y) % p ≠ 0 := fun h => by
  obtain ⟨p1, p2⟩ := pr_bd hp
  have b0 := Int.emod_nonneg x (show p ≠ 0 by omega)
  have b1 := Int.emod_lt_of_pos x (show 0 < p by omega)
  have hf : ((x % p) * und p (x % p)) % p = 1 := by
    have := und_fermat p hp (x % p).toNat (by omega) (by rw [Int.toNat_of_nonneg b0, Int.emod_emod]; exact hx)
    rwa [Int.toNat_of_nonneg b0] at this
  have e1 : (y * ((x % p) * und p (x % p))) % p = y % p := by rw [Int.mul_emod, hf, Int.mul_one, Int.emod_emod]
  have e2 : (y * ((x % p) * und p (x % p))) % p = 0 := by
    rw [show y * ((x % p) * und p (x % p)) = ((x % p) * y) * und p (x % p) by rw [← Int.mul_assoc, Int.mul_comm y (x % p)], Int.mul_emod, em1 x y p, h, Int.zero_mul, Int.zero_emod]
  exact hy (e1.symm.trans e2)
structure T45 (a b c e : Int) : Prop where
  h1 : a.natAbs ≤ 10 ^ 45
  h2 : b.natAbs ≤ 10 ^ 45
  h3 : c.natAbs ≤ 10 ^ 45
  h4 : e.natAbs ≤ 10 ^ 45
structure T20 (a b c e : Int) : Prop where
  h1 : a.natAbs ≤ 10 ^ 20
  h2 : b.natAbs ≤ 10 ^ 20
  h3 : c.natAbs ≤ 10 ^ 20
  h4 : e.natAbs ≤ 10 ^ 20
theorem T20.up {a b c e : Int} (h : T20 a b c e) : T45 a b c e := ⟨w45 h.1, w45 h.2, w45 h.3, w45 h.4⟩
theorem T20.bx {a b c e : Int} (h : T20 a b c e) : Bd [a, b] 1 (2 ^ 68) ∧ Bd [c, e] 1 (2 ^ 68) := ⟨(bd2 h.1 h.2).mono (by decide), (bd2 h.3 h.4).mono (by decide)⟩
theorem j45 {a b c e : Int} (ha : a.natAbs ≤ 10 ^ 20) (hb : b.natAbs ≤ 10 ^ 20) (hc : c.natAbs ≤ 10 ^ 20) (he : e.natAbs ≤ 10 ^ 20) : (a * c + b * e).natAbs ≤ 10 ^ 45 := by
  have h1 : (a * c).natAbs ≤ 10 ^ 20 * 10 ^ 20 := by rw [Int.natAbs_mul]; exact Nat.mul_le_mul ha hc
  have h2 : (b * e).natAbs ≤ 10 ^ 20 * 10 ^ 20 := by rw [Int.natAbs_mul]; exact Nat.mul_le_mul hb he
  exact Nat.le_trans (Int.natAbs_add_le _ _) (Nat.le_trans (Nat.add_le_add h1 h2) (by decide))
theorem T20.mul {a b c e a' b' c' e' : Int} (h : T20 a b c e) (k : T20 a' b' c' e') : T45 (a * a' + b * c') (a * b' + b * e') (c * a' + e * c') (c * b' + e * e') :=
  ⟨j45 h.1 h.2 k.1 k.3, j45 h.1 h.2 k.2 k.4, j45 h.3 h.4 k.1 k.3, j45 h.3 h.4 k.2 k.4⟩
theorem ch_p {C a t : Addr} {H : Hp} {p : Int} {l : List Int} {a1 b1 c1 e1 : Int} {Q : VK} {E : XK} (fa : Fp C H a p (md p l)) (hp : p ∈ PR) (hT : Tb H t [a1, b1] [c1, e1]) (k : T45 a1 b1 c1 e1) (hd : (a1 * e1 - b1 * c1) % p ≠ 0) (l1 : 1 ≤ l.length) (l13 : l.length ≤ 13)
    (q : ∀ q H', Same H H' → Fp C H' q p (md p (changed [a1, b1] [c1, e1] l)) → Q (.ref q) H') : spPChanged C [.ref a, .ref t] H Q E := by
  refine ⟨a, t, p, l, a1, b1, c1, e1, rfl, fa, hp, hT, k.1, k.2, k.3, k.4, hd, l1, l13, fun q1 H1 s1 f1 => q q1 H1 s1 ?_⟩
  rw [eqm_changed (md_md p [a1, b1]) (md_md p [c1, e1]) rfl rfl (md_md p l) (ne_of2 l1)] at f1
  exact f1
structure RS (C : Addr) (H : Hp) (d t1 t2 a1 a2 : Addr) (p : Int) (f g : List Int) : Prop where
  k1 : H t1 = some (tp f)
  k2 : H t2 = some (tp g)
  f1 : Fp C H a1 p (md p f)
  f2 : Fp C H a2 p (md p g)
  dd : Dc H d
theorem RS.same {C : Addr} {H H' : Hp} {d t1 t2 a1 a2 : Addr} {p : Int} {f g : List Int} (R : RS C H d t1 t2 a1 a2 p f g) (s : Same H H') : RS C H' d t1 t2 a1 a2 p f g :=
  ⟨s _ _ R.k1, s _ _ R.k2, R.f1.same s, R.f2.same s, R.dd.same s⟩
theorem RS.sx {C : Addr} {H H' : Hp} {d t1 t2 a1 a2 : Addr} {p : Int} {f g : List Int} (R : RS C H d t1 t2 a1 a2 p f g) (s : Sx d H H') (dd : Dc H' d) : RS C H' d t1 t2 a1 a2 p f g :=
  ⟨s _ _ (dc_ne R.dd R.k1) R.k1, s _ _ (dc_ne R.dd R.k2) R.k2, R.f1.sx R.dd s, R.f2.sx R.dd s, dd⟩
theorem mul_p {C a b : Addr} {H : Hp} {p : Int} {f g : List Int} {Q : VK} (fa : Fp C H a p (md p f)) (fb : Fp C H b p (md p g)) (hp : p ∈ PR) (nf : f ≠ []) (ng : g ≠ []) (hl : f.length + g.length ≤ 14) (q : ∀ q H', Same H H' → Fp C H' q p (md p (ml f g)) → Q (.ref q) H') : rBin C (spPMul C) E0 (.ref a) (.ref b) H Q := by
  obtain ⟨dx, t, ha, _⟩ := fa.slt
  obtain ⟨dy, u, hb, _⟩ := fb.slt
  have lf := List.length_pos_iff.mpr nf
  have lg := List.length_pos_iff.mpr ng
  refine ⟨a, dx, _, b, dy, _, rfl, rfl, ha, hb, a, b, p, _, _, rfl, fa, fb, hp, rw_md hp nf (by omega), rw_md hp ng (by omega), by rw [md_len, md_len]; exact hl, fun q1 H1 s1 f1 => q q1 H1 s1 ?_⟩
  rw [eqm_ml (md_md p f) (md_md p g) nf ng] at f1
  exact f1
section
variable {P : Program} {w : World} {K : PySem.W.Frag} {mg : Str → Option Value} {base : Heap}
def spNearC : Sp := fun vs H Q _ => ∃ (a : Addr) (m : Int), vs = [.ref a, .int m] ∧ Dc H a ∧ 0 ≤ m ∧ m ≤ 1000000000000000000000000000000 ∧ ∀ r H', -m ≤ r → r ≤ m → Sx a H H' → Dc H' a → Q (.int r) H'
theorem ok_law_nearC (T : Facts K mg) : FnOk P w K mg base CX0 2 T.f_law_near T.fd_law_near ["_law_dice_here", "_law_most"] spNearC := by
  have G_law_roll : FnOk P w K mg base CX0 1 T.f_law_roll T.fd_law_roll ["_law_dice_here", "_law_total"] spRoll2 := (ok_law_roll T).imp roll2
  refine T.F_law_near.ok sc_law_near (fun vs H Q E h => ?_) (fun cdv A outer s H vs Q E hr h => ?_)
  · obtain ⟨a, m, rfl, _⟩ := h
    rfl
  · obtain ⟨a, m, rfl, hd, h0, h1, q⟩ := h
    refine ⟨_, (PSs.nox (pss_one (ps_ret (pe_op op_sub (pe_call G_law_roll hr (by rfl) T.g_law_roll T.F_law_roll.kp T.b_law_roll .nil pass0 (pa_cons (pv 0) (pa_cons (pe_op op_add (pe_op op_mul pe_int (pv 1)) pe_int) pa_nil))) (pv 1))))), ?_⟩
    refine ⟨_, rfl, _, rfl, _, _, rfl, rfl, .inl ⟨by decide, by decide⟩, _, _, rfl, rfl, a, _, rfl, hd, (by show 0 < 2 * m + 1; omega), ?_, fun r H' hr s d => ⟨_, rfl, _, _, rfl, rfl, ?_⟩⟩
    · refine Nat.lt_trans (PySem.Flt.log2_lt_of (k := 110) (by decide) ?_) (by decide)
      show (2 * m + 1).natAbs < 2 ^ 110
      omega
    · have hr' : (r : Int) < 2 * m + 1 := hr
      exact q _ H' (by omega) (by omega) s d
theorem ok_law_right (T : Facts K mg) : FnOk P w K mg base CX0 9 T.f_law_right T.fd_law_right ["_law_dice_here"] spRight := by
  have G_law_roll : FnOk P w K mg base CX0 1 T.f_law_roll T.fd_law_roll ["_law_dice_here", "_law_total"] spRoll2 := (ok_law_roll T).imp roll2
  have G_law_near := ok_law_nearC (P := P) (w := w) (base := base) T
  have G_law_some_prime := ok_law_some_prime (P := P) (w := w) (base := base) T
  have G_law_prime_table := ok_law_prime_table (P := P) (w := w) (base := base) T
  have G_law_form := ok_law_form (P := P) (w := w) (base := base) T
  have G_law_is_told := ok_law_is_told (P := P) (w := w) (base := base) T
  have G_law_product := ok_law_product (P := P) (w := w) (base := base) T
  have G_law_value := ok_law_value (P := P) (w := w) (base := base) T
  have G_law_changed := ok_law_changed (P := P) (w := w) (base := base) T
  have G_law_joined := ok_law_joined (P := P) (w := w) (base := base) T
  have G_Form_init := ok_Form_init (P := P) (w := w) (base := base) T
  have G_PrimeForm_init := ok_PrimeForm_init (P := P) (w := w) (base := base) T
  have G_PrimeForm_eq := ok_PrimeForm_eq (P := P) (w := w) (base := base) T
  have G_PrimeForm_mul := ok_PrimeForm_mul (P := P) (w := w) (base := base) T
  have G_PrimeForm_value := ok_PrimeForm_value (P := P) (w := w) (base := base) T
  have G_PrimeForm_changed := ok_PrimeForm_changed (P := P) (w := w) (base := base) T
  have G_PrimeForm_of_form := ok_PrimeForm_of_form (P := P) (w := w) (base := base) T
  refine T.F_law_right.ok sc_law_right (fun vs H Q E h => ?_) (fun cdv A outer s H vs Q E hr h => ?_)
  · obtain ⟨d, rfl, _⟩ := h
    rfl
  · obtain ⟨d, rfl, hd, q⟩ := h
    have lg : ∀ i : Nat, i < 100 → (i : Int).natAbs.log2 < 9000 := fun i hi => Nat.lt_trans (PySem.Flt.log2_lt_of (k := 10) (by decide) (by show i < 2 ^ 10; omega)) (by decide)
    refine ⟨_, (PSs.nox (pss_cons (ps_set (i := 1) sc_law_right.nd rfl (.inl rfl) (pe_call G_law_some_prime (hr.mono (by decide)) (by rfl) T.g_law_some_prime T.F_law_some_prime.kp T.b_law_some_prime .nil pass0 (pa_cons (pv 0) pa_nil)))
    (pss_cons (ps_par (i := 2) (j := 3) (by rfl) sc_law_right.nd rfl rfl (by decide) rfl rfl (pa_cons (pe_call G_law_form (hr.mono (by decide)) (by rfl) T.g_law_form T.F_law_form.kp T.b_law_form .nil pass0 (pa_cons (pv 0) (pa_cons (pe_call G_law_roll (hr.mono (by decide)) (by rfl) T.g_law_roll T.F_law_roll.kp T.b_law_roll .nil pass0 (pa_cons (pv 0) (pa_cons pe_int pa_nil))) pa_nil))) (pa_cons (pe_call G_law_form (hr.mono (by decide)) (by rfl) T.g_law_form T.F_law_form.kp T.b_law_form .nil pass0 (pa_cons (pv 0) (pa_cons (pe_call G_law_roll (hr.mono (by decide)) (by rfl) T.g_law_roll T.F_law_roll.kp T.b_law_roll .nil pass0 (pa_cons (pv 0) (pa_cons pe_int pa_nil))) pa_nil))) pa_nil)) (by rfl))
    (pss_cons (ps_par (i := 4) (j := 5) (by rfl) sc_law_right.nd rfl rfl (by decide) rfl rfl (pa_cons (pe_make T.mk_PrimeForm G_PrimeForm_init (hr.mono (by decide)) (by rfl) T.g_PrimeForm T.b_PrimeForm_init .nil pass0 (pa_cons (pv 1) (pa_cons (pv 2) pa_nil))) (pa_cons (OwnC.pe_cmF (pe_glob (v := .ref T.C_PrimeForm) (by rfl) T.g_PrimeForm rfl) T.cm_PrimeForm_of_form G_PrimeForm_of_form T.b_PrimeForm_of_form (hr.mono (by decide)) (pa_cons (pe_make T.mk_Form G_Form_init (hr.mono (by decide)) (by rfl) T.g_Form T.b_Form_init .nil pass0 (pa_cons (pv 3) pa_nil)) (pa_cons (pv 1) pa_nil))) pa_nil)) (by rfl))
    (pss_cons (ps_if (pw_or (pt_not (pt_val (pe_call G_law_is_told hr (by rfl) T.g_law_is_told T.F_law_is_told.kp T.b_law_is_told .nil pass0 (pa_cons (pv 4) (pa_cons (pv 1) (pa_cons (pv 2) pa_nil)))))) (pw_or (pt_not (pt_val (pe_call G_law_is_told hr (by rfl) T.g_law_is_told T.F_law_is_told.kp T.b_law_is_told .nil pass0 (pa_cons (pv 5) (pa_cons (pv 1) (pa_cons (pv 3) pa_nil)))))) (pw_or1 (pt_cmpR (op_neF T.oc_PrimeForm T.mt_PrimeForm_eq G_PrimeForm_eq T.b_PrimeForm_eq (hr.mono (by decide))) (OwnC.pe_cmF (pe_glob (v := .ref T.C_PrimeForm) (by rfl) T.g_PrimeForm rfl) T.cm_PrimeForm_of_form G_PrimeForm_of_form T.b_PrimeForm_of_form (hr.mono (by decide)) (pa_cons (pe_make T.mk_Form G_Form_init (hr.mono (by decide)) (by rfl) T.g_Form T.b_Form_init .nil pass0 (pa_cons (pv 2) pa_nil)) (pa_cons (pv 1) pa_nil))) (pv 4) (nomark _))))).pt
      (pss_one (ps_ret pe_bl))
      pss_nil)
    (pss_cons (ps_set (i := 6) sc_law_right.nd rfl (.inl rfl) (pe_op (op_mulO T.oc_PrimeForm T.mt_PrimeForm_mul G_PrimeForm_mul T.b_PrimeForm_mul (hr.mono (by decide))) (pv 4) (pv 5)))
    (pss_cons (ps_if (pw_or (pt_not (pt_val (pe_call G_law_is_told hr (by rfl) T.g_law_is_told T.F_law_is_told.kp T.b_law_is_told .nil pass0 (pa_cons (pv 6) (pa_cons (pv 1) (pa_cons (pe_call G_law_product (hr.mono (by decide)) (by rfl) T.g_law_product T.F_law_product.kp T.b_law_product .nil pass0 (pa_cons (pv 2) (pa_cons (pv 3) pa_nil))) pa_nil)))))) (pw_or1 (pt_cmpR (op_neF T.oc_PrimeForm T.mt_PrimeForm_eq G_PrimeForm_eq T.b_PrimeForm_eq (hr.mono (by decide))) (pe_op (op_mulO T.oc_PrimeForm T.mt_PrimeForm_mul G_PrimeForm_mul T.b_PrimeForm_mul (hr.mono (by decide))) (pv 5) (pv 4)) (pv 6) (nomark _)))).pt
      (pss_one (ps_ret pe_bl))
      pss_nil)
    (pss_cons (ps_par (i := 7) (j := 8) (by rfl) sc_law_right.nd rfl rfl (by decide) rfl rfl (pa_cons (pe_call G_law_near (hr.mono (by decide)) (by rfl) T.g_law_near T.F_law_near.kp T.b_law_near .nil pass0 (pa_cons (pv 0) (pa_cons (pe_op op_pow pe_int pe_int) pa_nil))) (pa_cons (pe_call G_law_near (hr.mono (by decide)) (by rfl) T.g_law_near T.F_law_near.kp T.b_law_near .nil pass0 (pa_cons (pv 0) (pa_cons (pe_op op_pow pe_int pe_int) pa_nil))) pa_nil)) (by rfl))
    (pss_cons (ps_par (i := 9) (j := 10) (by rfl) sc_law_right.nd rfl rfl (by decide) rfl rfl (pa_cons (pe_mSl (pv 4) T.oc_PrimeForm T.mt_PrimeForm_value T.F_PrimeForm_value.kp G_PrimeForm_value T.b_PrimeForm_value (hr.mono (by decide)) (pa_cons (pv 7) (pa_cons (pv 8) pa_nil))) (pa_cons (pe_mSl (pv 5) T.oc_PrimeForm T.mt_PrimeForm_value T.F_PrimeForm_value.kp G_PrimeForm_value T.b_PrimeForm_value (hr.mono (by decide)) (pa_cons (pv 7) (pa_cons (pv 8) pa_nil))) pa_nil)) (by rfl))
    (pss_cons (ps_if (pw_or (pt_cmpR op_ne (pv 9) (pe_op op_mod (pe_callTy call_int1 (by rfl) T.z_int (by decide +kernel) (pa_cons (pe_call G_law_value (hr.mono (by decide)) (by rfl) T.g_law_value T.F_law_value.kp T.b_law_value .nil pass0 (pa_cons (pv 2) (pa_cons (pv 7) (pa_cons (pv 8) pa_nil)))) pa_nil)) (pv 1)) (nomark _)) (pw_or1 (pt_cmpR op_ne (pe_mSl (pv 6) T.oc_PrimeForm T.mt_PrimeForm_value T.F_PrimeForm_value.kp G_PrimeForm_value T.b_PrimeForm_value (hr.mono (by decide)) (pa_cons (pv 7) (pa_cons (pv 8) pa_nil))) (pe_op op_mod (pe_callTy call_int1 (by rfl) T.z_int (by decide +kernel) (pa_cons (pe_op op_mulW (pv 9) (pv 10)) pa_nil)) (pv 1)) (nomark _)))).pt
      (pss_one (ps_ret pe_bl))
      pss_nil)
    (pss_cons (ps_par (i := 11) (j := 12) (by rfl) sc_law_right.nd rfl rfl (by decide) rfl rfl (pa_cons (pe_call G_law_prime_table (hr.mono (by decide)) (by rfl) T.g_law_prime_table T.F_law_prime_table.kp T.b_law_prime_table .nil pass0 (pa_cons (pv 0) (pa_cons (pv 1) pa_nil))) (pa_cons (pe_call G_law_prime_table (hr.mono (by decide)) (by rfl) T.g_law_prime_table T.F_law_prime_table.kp T.b_law_prime_table .nil pass0 (pa_cons (pv 0) (pa_cons (pv 1) pa_nil))) pa_nil)) (by rfl))
    (pss_cons (ps_set (i := 13) sc_law_right.nd rfl (.inl rfl) (pe_mSl (pv 4) T.oc_PrimeForm T.mt_PrimeForm_changed T.F_PrimeForm_changed.kp G_PrimeForm_changed T.b_PrimeForm_changed (hr.mono (by decide)) (pa_cons (pv 11) pa_nil)))
    (pss_cons (ps_if (pw_or (pt_not (pt_val (pe_call G_law_is_told hr (by rfl) T.g_law_is_told T.F_law_is_told.kp T.b_law_is_told .nil pass0 (pa_cons (pv 13) (pa_cons (pv 1) (pa_cons (pe_call G_law_changed (hr.mono (by decide)) (by rfl) T.g_law_changed T.F_law_changed.kp T.b_law_changed .nil pass0 (pa_cons (pv 2) (pa_cons (pv 11) pa_nil))) pa_nil)))))) (pw_or1 (pt_cmpR (op_neF T.oc_PrimeForm T.mt_PrimeForm_eq G_PrimeForm_eq T.b_PrimeForm_eq (hr.mono (by decide))) (pe_mSl (pv 13) T.oc_PrimeForm T.mt_PrimeForm_changed T.F_PrimeForm_changed.kp G_PrimeForm_changed T.b_PrimeForm_changed (hr.mono (by decide)) (pa_cons (pv 12) pa_nil)) (pe_mSl (pv 4) T.oc_PrimeForm T.mt_PrimeForm_changed T.F_PrimeForm_changed.kp G_PrimeForm_changed T.b_PrimeForm_changed (hr.mono (by decide)) (pa_cons (pe_call G_law_joined (hr.mono (by decide)) (by rfl) T.g_law_joined T.F_law_joined.kp T.b_law_joined .nil pass0 (pa_cons (pv 11) (pa_cons (pv 12) pa_nil))) pa_nil)) (nomark _)))).pt
      (pss_one (ps_ret pe_bl))
      pss_nil)
    (pss_one (ps_ret (pe_cmpR (op_eqF T.mt_PrimeForm_eq G_PrimeForm_eq T.b_PrimeForm_eq (hr.mono (by decide))) (pe_mSl (pv 6) T.oc_PrimeForm T.mt_PrimeForm_changed T.F_PrimeForm_changed.kp G_PrimeForm_changed T.b_PrimeForm_changed (hr.mono (by decide)) (pa_cons (pv 11) pa_nil)) (pe_op (op_mulO T.oc_PrimeForm T.mt_PrimeForm_mul G_PrimeForm_mul T.b_PrimeForm_mul (hr.mono (by decide))) (pv 13) (pe_mSl (pv 5) T.oc_PrimeForm T.mt_PrimeForm_changed T.F_PrimeForm_changed.kp G_PrimeForm_changed T.b_PrimeForm_changed (hr.mono (by decide)) (pa_cons (pv 11) pa_nil))) (nomark _))))))))))))))))), ?_⟩
    refine ⟨_, rfl, d, rfl, hd, fun p H1 hp s1 d1 => ⟨_, rfl, _, rfl, d, 9, rfl, d1, by decide, lg 9 (by decide), fun n H2 hn s2 d2 => ?_⟩⟩
    have hn : (n : Int) < 9 := hn
    refine ⟨d, n, rfl, d2, by omega, fun t1 H3 f s3 d3 k1 bf => ⟨_, rfl, _, rfl, d, 5, rfl, d3, by decide, lg 5 (by decide), fun m H4 hm s4 d4 => ?_⟩⟩
    have hm : (m : Int) < 5 := hm
    refine ⟨d, m, rfl, d4, by omega, fun t2 H5 g s5 d5 k2 bg => ⟨_, _, rfl, ?_⟩⟩
    have bf : Bd f n (2 ^ 47) := bf.mono (by decide)
    have bg : Bd g m (2 ^ 47) := bg.mono (by decide)
    have lf := bf.len
    have lg' := bg.len
    have nf := bf.ne
    have ng := bg.ne
    have K1 : H5 t1 = some (tp f) := (s4.trans s5) _ _ (dc_ne d3 k1) k1
    obtain ⟨p1, p2⟩ := pr_bd hp
    have sI : Sx d H H5 := (((s1.trans s2).trans s3).trans s4).trans s5
    clear k1 s1 s2 s3 s4 s5 d1 d2 d3 d4
    have tf : Tr f := bf.tr (by omega) (by decide)
    have tg : Tr g := bg.tr (by omega) (by decide)
    refine ⟨_, rfl, _, rfl, fun a1 dx x1 x2 x3 => mkP x1 x2 x3 K1 hp tf.pos (by omega) tf.sho fun H6 s6 F1 => ?_⟩
    refine ⟨rfl, _, rfl, fun b2 dx x1 x2 x3 => mkB x1 x2 x3 (s6 _ _ k2) bg (by omega) (by decide) fun H7 s7 g7 => ⟨_, rfl, b2, p, g, rfl, g7, hp, by omega, by omega, fun a2 H8 s8 F2 => ⟨_, _, rfl, ?_⟩⟩⟩
    have s68 := s6.trans (s7.trans s8)
    have R : RS T.C_PrimeForm H8 d t1 t2 a1 a2 p f g := ⟨s68 _ _ K1, s68 _ _ k2, F1.same (s7.trans s8), F2, d5.same s68⟩
    have sI := sI.trans (Sx.of s68)
    clear s68 s6 s7 s8 K1 k2 F1 F2 g7 d5
    refine ⟨_, rfl, _, rfl, _, rfl, a1, t1, p, f, rfl, R.f1, hp, R.k1, by omega, by omega, fun H9 s9 => ⟨true, rfl, iteF ?_⟩⟩
    have R := R.same s9
    refine ⟨_, rfl, _, rfl, _, rfl, a2, t2, p, g, rfl, R.f2, hp, R.k2, by omega, by omega, fun H10 s10 => ⟨true, rfl, iteF ?_⟩⟩
    have R := R.same s10
    refine ⟨rfl, _, rfl, fun b3 dx x1 x2 x3 => mkB x1 x2 x3 R.k1 bf (by omega) (by decide) fun H11 s11 g11 => ⟨_, rfl, b3, p, f, rfl, g11, hp, by omega, by omega, fun b4 H12 s12 f12 => ⟨_, rfl, ne_prime T.oc_PrimeForm f12 (R.f1.same (s11.trans s12)) ?_⟩⟩⟩
    rw [decide_eq_true rfl, decide_eq_true rfl]
    have R := R.same (s11.trans s12)
    have sI := sI.trans (Sx.of ((s9.trans s10).trans (s11.trans s12)))
    clear s9 s10 s11 s12 g11 f12
    refine ⟨_, rfl, iteF ?_⟩
    refine st_norm [some (.ref d), some (.int p), some (.ref t1), some (.ref t2), some (.ref a1), some (.ref a2), none, none, none, none, none, none, none, none] rfl ?_
    -- products
    refine ⟨_, rfl, _, rfl, mul_p R.f1 R.f2 hp nf ng (by omega) fun a3 H13 s13 F3 => ?_⟩
    have R := R.same s13
    have sI := sI.trans (Sx.of s13)
    clear s13
    have bm := bd_ml bf bg
    have lm := bm.len
    have nm' := bm.ne
    have smf : ∀ z ∈ f, sm z := fun z hz => Nat.lt_of_le_of_lt (bf.mem z hz) (two_lt (by decide))
    have smg : ∀ z ∈ g, sm z := fun z hz => Nat.lt_of_le_of_lt (bg.mem z hz) (two_lt (by decide))
    refine ⟨_, rfl, _, rfl, _, rfl, _, rfl, t1, t2, f, g, rfl, R.k1, R.k2, nf, ng, by omega, by omega, smf, smg, fun u1 H14 s14 _ k14 => ?_⟩
    have R := R.same s14
    have F3 := F3.same s14
    refine ⟨a3, u1, p, ml f g, rfl, F3, hp, k14, by omega, by omega, fun H15 s15 => ⟨true, rfl, iteF ?_⟩⟩
    have R := R.same s15
    have F3 := F3.same s15
    refine ⟨_, rfl, _, rfl, mul_p R.f2 R.f1 hp ng nf (by omega) fun a4 H16 s16 F4 => ⟨_, rfl, ne_prime T.oc_PrimeForm F4 (F3.same s16) ?_⟩⟩
    rw [ml_comm g f, decide_eq_true rfl, decide_eq_true rfl]
    have R := R.same s16
    have F3 := F3.same s16
    have sI := sI.trans (Sx.of (s14.trans (s15.trans s16)))
    clear s14 s15 s16 k14 F4
    refine ⟨_, rfl, iteF ?_⟩
    -- values
    have e6 : (10 : Int) ^ 6 = 1000000 := by decide
    have e30 : (10 : Int) ^ 30 = 1000000000000000000000000000000 := by decide
    refine ⟨_, rfl, 10, 6, rfl, rfl, ⟨by decide, by decide, by decide⟩, d, _, rfl, R.dd, by decide, by decide, fun x H17 x0 x1 s17 d17 => ?_⟩
    have R17 := R.sx s17 d17
    have F17 := F3.sx R.dd s17
    refine ⟨_, rfl, 10, 30, rfl, rfl, ⟨by decide, by decide, by decide⟩, d, _, rfl, d17, by decide, by decide, fun y H18 y0 y1 s18 d18 => ⟨_, _, rfl, ?_⟩⟩
    have R := R17.sx s18 d18
    have F3 := F17.sx d17 s18
    have sI := sI.trans (s17.trans s18)
    clear s17 s18 R17 F17
    have xb : x.natAbs ≤ 2 ^ 100 := by
      have x0 : -(1000000 : Int) ≤ x := x0
      have x1 : x ≤ (1000000 : Int) := x1
      omega
    have yb : y.natAbs ≤ 2 ^ 100 := by
      have y0 : -(1000000000000000000000000000000 : Int) ≤ y := y0
      have y1 : y ≤ (1000000000000000000000000000000 : Int) := y1
      omega
    have hx : Sho x := Nat.lt_of_le_of_lt xb (by decide)
    have hy : Sho y := Nat.lt_of_le_of_lt yb (by decide)
    clear x0 x1 y0 y1
    refine ⟨_, rfl, mp R.f1 ⟨_, rfl, _, rfl, a1, p, _, x, y, rfl, R.f1, hp, rd_md hp f, hx, hy, by rw [md_len]; omega, fun H19 s19 => ?_⟩⟩
    have R := R.same s19
    have F3 := F3.same s19
    refine ⟨_, rfl, mp R.f2 ⟨_, rfl, _, rfl, a2, p, _, x, y, rfl, R.f2, hp, rd_md hp g, hx, hy, by rw [md_len]; omega, fun H20 s20 => ⟨_, _, rfl, ?_⟩⟩⟩
    have R := R.same s20
    have F3 := F3.same s20
    refine ⟨_, rfl, _, rfl, _, rfl, _, rfl, t1, f, x, y, 2 ^ 100, rfl, R.k1, smf, vb_of bf (by omega) xb yb, fun H21 s21 => .inl ⟨_, rfl, _, rfl, _, _, rfl, rfl, (by show 0 < p; omega), rfl, _, rfl, ?_⟩⟩
    rw [decide_eq_true (show V.int (ev (md p f) x y % p) = V.int (ev f x y % p) by rw [ev_eqm (md_md p f)])]
    have R := R.same s21
    have F3 := F3.same s21
    have bmv : ∀ z : Int, sm (z % p) := fun z => sm_le (n := 101) (show (z % p).natAbs ≤ 101 by have := Int.emod_nonneg z (show p ≠ 0 by omega); have := Int.emod_lt_of_pos z (show 0 < p by omega); omega) (by decide)
    refine iteF ⟨_, rfl, mp F3 ⟨_, rfl, _, rfl, a3, p, _, x, y, rfl, F3, hp, rd_md hp _, hx, hy, by rw [md_len]; omega, fun H22 s22 => ⟨_, rfl, _, rfl, _, _, rfl, rfl, sm_mul (bmv _) (bmv _), .inl ⟨_, rfl, _, rfl, _, _, rfl, rfl, (by show 0 < p; omega), rfl, _, rfl, ?_⟩⟩⟩⟩
    rw [decide_eq_true (show V.int (ev (md p (ml f g)) x y % p) = V.int (ev (md p f) x y % p * (ev (md p g) x y % p) % p) by
      rw [ev_eqm (md_md p (ml f g)), ev_eqm (md_md p f), ev_eqm (md_md p g), ev_ml nf ng, Int.mul_emod])]
    have R := R.same s22
    have F3 := F3.same s22
    have sI := sI.trans (Sx.of ((s19.trans s20).trans (s21.trans s22)))
    clear s19 s20 s21 s22 bmv
    refine iteF ?_
    refine st_norm [some (.ref d), some (.int p), some (.ref t1), some (.ref t2), some (.ref a1), some (.ref a2), some (.ref a3), some (.int x), some (.int y), some (.int (ev (md p f) x y % p)), some (.int (ev (md p g) x y % p)), none, none, none] rfl ?_
    clear xb yb hx hy
    -- changes
    refine ⟨_, rfl, _, rfl, d, p, rfl, R.dd, hp, fun p5 H23 a b c e s23 d23 tb ha hb hc he hz => ?_⟩
    have h20 : T20 a b c e := ⟨ha, hb, hc, he⟩
    clear ha hb hc he
    have R23 := R.sx s23 d23
    have F23 := F3.sx R.dd s23
    refine ⟨_, rfl, _, rfl, d, p, rfl, d23, hp, fun p6 H24 a' b' c' e' s24 d24 tb' ha hb hc he hz' => ⟨_, _, rfl, ?_⟩⟩
    have h20' : T20 a' b' c' e' := ⟨ha, hb, hc, he⟩
    clear ha hb hc he
    have R := R23.sx s24 d24
    have F3 := F23.sx d23 s24
    have tb := tb.sx d23 s24
    have sI := sI.trans (s23.trans s24)
    clear s23 s24 R23 F23
    refine ⟨_, rfl, mp R.f1 ⟨_, rfl, ?_⟩⟩
    dsimp only [tNil]
    refine ch_p R.f1 hp tb h20.up hz (by omega) (by omega) fun a7 H25 s25 F7 => ?_
    have R := R.same s25
    have F3 := F3.same s25
    have tb := tb.same s25
    have tb' := tb'.same s25
    obtain ⟨bX, bY⟩ := h20.bx
    have lch := changed_len (X := [a, b]) (Y := [c, e]) rfl rfl nf
    have nch : changed [a, b] [c, e] f ≠ [] := ne_of2 (by omega)
    refine ⟨_, rfl, _, rfl, _, rfl, _, rfl, t1, p5, f, [a, b], [c, e], rfl, R.k1, tb, lchOk_of bX bY bf (by omega), fun u2 H26 s26 k26 => ?_⟩
    refine ⟨a7, u2, p, changed [a, b] [c, e] f, rfl, F7.same s26, hp, k26, by omega, by omega, fun H27 s27 => ⟨true, rfl, iteF ?_⟩⟩
    have s257 := s26.trans s27
    have R := R.same s257
    have F3 := F3.same s257
    have F7 := F7.same s257
    have tb := tb.same s257
    have tb' := tb'.same s257
    have sI := sI.trans (Sx.of (s25.trans s257))
    clear s25 s26 s27 s257 k26
    refine ⟨_, rfl, mp F7 ⟨_, rfl, ?_⟩⟩
    dsimp only [tNil]
    refine ch_p F7 hp tb' h20'.up hz' (by omega) (by omega) fun a8 H28 s28 F8 => ?_
    have R := R.same s28
    have tb := tb.same s28
    have tb' := tb'.same s28
    have lt20 : ∀ z ∈ [a, b, c, e, a', b', c', e'], z.natAbs ≤ 100000000000000000000 := fun z hz => by
      simp only [List.mem_cons, List.not_mem_nil, or_false] at hz
      rcases hz with e | e | e | e | e | e | e | e <;> rw [e]
      · exact h20.1
      · exact h20.2
      · exact h20.3
      · exact h20.4
      · exact h20'.1
      · exact h20'.2
      · exact h20'.3
      · exact h20'.4
    refine ⟨_, rfl, mp R.f1 ⟨_, rfl, _, rfl, p5, p6, a, b, c, e, a', b', c', e', rfl, tb, tb', lt20, fun p7 H29 s29 tb7 => ?_⟩⟩
    have R := R.same s29
    dsimp only [tNil]
    refine ch_p R.f1 hp tb7 (h20.mul h20') ?_ (by omega) (by omega) fun a9 H30 s30 F9 => ne_prime T.oc_PrimeForm (F8.same (s29.trans s30)) F9 ?_
    · rw [show (a * a' + b * c') * (c * b' + e * e') - (a * b' + b * e') * (c * a' + e * c') = (a * e - b * c) * (a' * e' - b' * c') by grind]
      exact pr_mul hp hz hz'
    rw [changed_changed nf, decide_eq_true rfl, decide_eq_true rfl]
    refine ⟨_, rfl, iteF ?_⟩
    have s2830 := s28.trans (s29.trans s30)
    have R := R.same s30
    have F3 := F3.same s2830
    have F7 := F7.same s2830
    have tb := tb.same (s29.trans s30)
    have sI := sI.trans (Sx.of s2830)
    clear s28 s29 s30 s2830 F8 F9 tb7 tb' lt20
    -- products changed
    refine ⟨_, rfl, mp F3 ⟨_, rfl, ?_⟩⟩
    dsimp only [tNil]
    refine ch_p F3 hp tb h20.up hz (by omega) (by omega) fun a10 H31 s31 F10 => ?_
    have R := R.same s31
    refine ⟨_, rfl, _, rfl, mp R.f2 ⟨_, rfl, ?_⟩⟩
    dsimp only [tNil]
    refine ch_p R.f2 hp (tb.same s31) h20.up hz (by omega) (by omega) fun a11 H32 s32 F11 => ?_
    have lcg := changed_len (X := [a, b]) (Y := [c, e]) rfl rfl ng
    have ncg : changed [a, b] [c, e] g ≠ [] := ne_of2 (by omega)
    refine mul_p (F7.same (s31.trans s32)) F11 hp nch ncg (by omega) fun a12 H33 s33 F12 => eq_prime T.oc_PrimeForm (F10.same (s32.trans s33)) F12 ?_
    rw [changed_ml rfl rfl nf ng, decide_eq_true rfl, decide_eq_true rfl]
    exact q _ (sI.trans (Sx.of (s31.trans (s32.trans s33)))) (R.dd.same (s32.trans s33))
end
end K49

set_option Elab.async false
set_option linter.all false
set_option maxRecDepth 100000
set_option maxHeartbeats 4000000
namespace K49
open PySem PySem.Spec PyProof.Rows L2 StX RZ MyR SlX OwnR OwnF EnumT
def z13 : List Int := List.replicate 13 0
theorem ptx_13 : ptx 13 [1, 0, 10, 1] = Str.ofString "form 1 0 10 1 over 13" := by decide +kernel
theorem sho_l {l : List Int} (h : (l.all fun z => decide (z.natAbs ≤ 100)) = true) : ∀ z ∈ l, Sho z := fun z hz => Nat.lt_of_le_of_lt (of_decide_eq_true (List.all_eq_true.mp h z hz)) (by decide)
section
variable {P : Program} {w : World} {K : PySem.W.Frag} {mg : Str → Option Value} {base : Heap}
theorem ok_law (T : Facts K mg) : FnOk P w K mg base CX0 10 T.f_law T.fd_law ["_law_script"] (spLaw K) := by
  have G_law_dice : FnOk P w K mg base CX0 1 T.f_law_dice T.fd_law_dice ["_law_script", "_law_spot"] (spDice K) := ok_law_dice T
  have G_law_right := ok_law_right (P := P) (w := w) (base := base) T
  have G_Form_init := ok_Form_init (P := P) (w := w) (base := base) T
  have G_PrimeForm_init := ok_PrimeForm_init (P := P) (w := w) (base := base) T
  have G_PrimeForm_eq := ok_PrimeForm_eq (P := P) (w := w) (base := base) T
  have G_PrimeForm_entries := ok_PrimeForm_entries (P := P) (w := w) (base := base) T
  have G_PrimeForm_is_zero := ok_PrimeForm_is_zero (P := P) (w := w) (base := base) T
  have G_PrimeForm_plain := ok_PrimeForm_plain (P := P) (w := w) (base := base) T
  have G_PrimeForm_str := ok_PrimeForm_str (P := P) (w := w) (base := base) T
  have G_PrimeForm_changed := ok_PrimeForm_changed (P := P) (w := w) (base := base) T
  have G_PrimeForm_of_form := ok_PrimeForm_of_form (P := P) (w := w) (base := base) T
  refine T.F_law.ok sc_law (fun vs H Q E h => ?_) (fun cdv A outer s H vs Q E hr h => ?_)
  · obtain ⟨a, ns, rfl, _⟩ := h
    rfl
  · obtain ⟨a, ns, rfl, hS, hlen, q⟩ := h
    refine ⟨_, (PSs.nox (pss_cons (ps_for PassesOwn.never (by rfl) (pi_range1 (by rfl) T.z_range (pa_cons (pe_callB (call_max2 (by rfl)) (by rfl) T.z_max (by decide +kernel) (pa_cons pe_int (pa_cons (pe_callB (call_min2 (by rfl)) (by rfl) T.z_min (by decide +kernel) (pa_cons pe_int (pa_cons (pe_callB call_len_seq (by rfl) T.z_len (by decide +kernel) (pa_cons (pv 0) pa_nil)) pa_nil))) pa_nil))) pa_nil)) (pg_name (i := 1) sc_law.nd rfl (.inl rfl))
      (pss_one (ps_if (pt_not (pt_val (pe_call G_law_right hr (by rfl) T.g_law_right T.F_law_right.kp T.b_law_right .nil pass0 (pa_cons (pe_call G_law_dice (hr.mono (by decide)) (by rfl) T.g_law_dice T.F_law_dice.kp T.b_law_dice .nil pass0 (pa_cons (pv 0) (pa_cons (pv 1) pa_nil))) pa_nil))))
        (pss_one (ps_ret pe_bl))
        pss_nil)))
    (pss_cons (ps_set (i := 2) sc_law.nd rfl (.inl rfl) (OwnC.pe_cmF (pe_glob (v := .ref T.C_PrimeForm) (by rfl) T.g_PrimeForm rfl) T.cm_PrimeForm_of_form G_PrimeForm_of_form T.b_PrimeForm_of_form (hr.mono (by decide)) (pa_cons (pe_make T.mk_Form G_Form_init (hr.mono (by decide)) (by rfl) T.g_Form T.b_Form_init .nil pass0 (pa_cons (pe_tup (pa_cons pe_int (pa_cons pe_int (pa_cons (pe_un un_neg pe_int) (pa_cons pe_int pa_nil))))) pa_nil)) (pa_cons pe_int pa_nil))))
    (pss_cons (ps_set (i := 3) sc_law.nd rfl (.inl rfl) (OwnC.pe_cmF (pe_glob (v := .ref T.C_PrimeForm) (by rfl) T.g_PrimeForm rfl) T.cm_PrimeForm_of_form G_PrimeForm_of_form T.b_PrimeForm_of_form (hr.mono (by decide)) (pa_cons (pe_make T.mk_Form G_Form_init (hr.mono (by decide)) (by rfl) T.g_Form T.b_Form_init .nil pass0 (pa_cons (pe_tup (pa_cons pe_int (pa_cons pe_int (pa_cons (pe_un un_neg pe_int) (pa_cons pe_int pa_nil))))) pa_nil)) (pa_cons pe_int pa_nil))))
    (pss_cons (ps_set (i := 4) sc_law.nd rfl (.inl rfl) (pe_lst (pa_cons (pe_prp (pv 2) T.oc_PrimeForm T.pr_PrimeForm_entries G_PrimeForm_entries T.b_PrimeForm_entries (hr.mono (by decide))) (pa_cons (pe_callTy (call_strF T.mt_PrimeForm_str G_PrimeForm_str T.b_PrimeForm_str (hr.mono (by decide))) (by rfl) T.z_str (by decide +kernel) (pa_cons (pv 2) pa_nil)) (pa_cons (pe_prp (pe_mSl (pv 3) T.oc_PrimeForm T.mt_PrimeForm_changed T.F_PrimeForm_changed.kp G_PrimeForm_changed T.b_PrimeForm_changed (hr.mono (by decide)) (pa_cons (pe_tup (pa_cons (pe_tup (pa_cons pe_int (pa_cons pe_int pa_nil))) (pa_cons (pe_tup (pa_cons pe_int (pa_cons pe_int pa_nil))) pa_nil))) pa_nil)) T.oc_PrimeForm T.pr_PrimeForm_entries G_PrimeForm_entries T.b_PrimeForm_entries (hr.mono (by decide))) (pa_cons (pe_prp (pe_prp (pe_make T.mk_PrimeForm G_PrimeForm_init (hr.mono (by decide)) (by rfl) T.g_PrimeForm T.b_PrimeForm_init .nil pass0 (pa_cons pe_int (pa_cons (pe_tup (pa_cons pe_int (pa_cons pe_int (pa_cons pe_int pa_nil)))) pa_nil))) T.oc_PrimeForm T.pr_PrimeForm_plain G_PrimeForm_plain T.b_PrimeForm_plain (hr.mono (by decide))) T.oc_PrimeForm T.pr_PrimeForm_entries G_PrimeForm_entries T.b_PrimeForm_entries (hr.mono (by decide))) pa_nil))))))
    (pss_cons (ps_if (pt_cmpR (op_neD (hu64 hr)) (pv 4) (pe_lst (pa_cons (pe_tup (pa_cons pe_int (pa_cons pe_int (pa_cons pe_int (pa_cons pe_int pa_nil))))) (pa_cons pe_str (pa_cons (pe_tup (pa_cons pe_int (pa_cons pe_int (pa_cons pe_int (pa_cons pe_int pa_nil))))) (pa_cons (pe_tup (pa_cons pe_int (pa_cons pe_int (pa_cons pe_int pa_nil)))) pa_nil))))) (nomark _))
      (pss_one (ps_ret pe_bl))
      pss_nil)
    (pss_one (ps_ret (pe_and (pe_prp (pe_make T.mk_PrimeForm G_PrimeForm_init (hr.mono (by decide)) (by rfl) T.g_PrimeForm T.b_PrimeForm_init .nil pass0 (pa_cons pe_int (pa_cons (pe_op op_repT (pe_tup (pa_cons pe_int pa_nil)) pe_int) pa_nil))) T.oc_PrimeForm T.pr_PrimeForm_is_zero G_PrimeForm_is_zero T.b_PrimeForm_is_zero (hr.mono (by decide))) (pe_one (pe_cmpR (op_eqF T.mt_PrimeForm_eq G_PrimeForm_eq T.b_PrimeForm_eq (hr.mono (by decide))) (pe_prp (pe_make T.mk_PrimeForm G_PrimeForm_init (hr.mono (by decide)) (by rfl) T.g_PrimeForm T.b_PrimeForm_init .nil pass0 (pa_cons pe_int (pa_cons (pe_tup (pa_cons pe_int (pa_cons pe_int pa_nil))) pa_nil))) T.oc_PrimeForm T.pr_PrimeForm_plain G_PrimeForm_plain T.b_PrimeForm_plain (hr.mono (by decide))) (pe_make T.mk_PrimeForm G_PrimeForm_init (hr.mono (by decide)) (by rfl) T.g_PrimeForm T.b_PrimeForm_init .nil pass0 (pa_cons pe_int (pa_cons (pe_tup (pa_cons pe_int (pa_cons (pe_un un_neg pe_int) pa_nil))) pa_nil))) (nomark _)))))))))))), ?_⟩
    refine ⟨.ref a, rfl, a, _, rfl, .inl hS, 4, _, rfl, 1, _, rfl, _, rfl, ?_⟩
    rw [List.length_map]
    obtain ⟨n, hn, hn0⟩ : ∃ n : Int, (if (if ((ns.length : Nat) : Int) < 4 then ((ns.length : Nat) : Int) else 4) > 1 then (if ((ns.length : Nat) : Int) < 4 then ((ns.length : Nat) : Int) else 4) else 1) = n ∧ 0 ≤ n ∧ n ≤ 4 := ⟨_, rfl, by split <;> split <;> omega, by split <;> split <;> omega⟩
    rw [hn]
    refine ⟨by omega, by omega, for_range (n := n.toNat) (fun i σ H' => ∃ y1, σ = [some (.ref a), y1, none, none, none] ∧ SqL K H' a (ns.map V.int)) ⟨none, rfl, hS⟩ (fun i σ H1 hi hP => ?_) (fun σ H1 hP => ?_)⟩
    · obtain ⟨y1, rfl, h1⟩ := hP
      refine ⟨.ref a, rfl, _, rfl, a, ns, i, ?_, h1, fun d x y z nd => ?_⟩
      · show [V.ref a, V.int (0 + (i : Int))] ++ [] = _
        rw [Int.zero_add]
        rfl
      have d1 : Dc (upd H1 d (dice x y z)) d := ⟨x, y, z, upd_same⟩
      refine ⟨d, rfl, d1, fun H2 s2 d2 => ⟨true, rfl, iteF ?_⟩⟩
      exact ⟨_, rfl, script_Sx s2 nd h1⟩
    · obtain ⟨y1, rfl, h1⟩ := hP
      have z1 : 1 ≤ sizeLine := by decide
      have z2 : 2 ≤ sizeLine := by decide
      have z3 : 3 ≤ sizeLine := by decide
      have z4 : 4 ≤ sizeLine := by decide
      have p13 : (13 : Int) ∈ PR := by decide
      have p17 : (17 : Int) ∈ PR := by decide
      have p101 : (101 : Int) ∈ PR := by decide
      have bc : Bd [1, 0, -3, 1] 3 5 := ⟨rfl, by decide⟩
      refine ⟨rfl, _, rfl, z4, fun p1 m1 => gen_upd H1 p1 (tp [1, 0, -3, 1]) m1 fun H2 s2 k2 => fun a1 dx x1 x2 x3 => mkB x1 x2 x3 k2 bc (by decide) (by decide) fun H3 s3 f1 => ?_⟩
      refine ⟨a1, 13, _, rfl, f1, p13, by decide, by decide, fun a2 H4 s4 F2 => ?_⟩
      rw [show md 13 [1, 0, -3, 1] = [1, 0, 10, 1] by decide +kernel] at F2
      refine ⟨rfl, _, rfl, z4, fun p3 m3 => gen_upd H4 p3 (tp [1, 0, -3, 1]) m3 fun H5 s5 k5 => fun a3 dx x1 x2 x3 => mkB x1 x2 x3 k5 bc (by decide) (by decide) fun H6 s6 f3 => ?_⟩
      refine ⟨a3, 17, _, rfl, f3, p17, by decide, by decide, fun a4 H7 s7 F4 => ?_⟩
      have F2 := F2.same (s5.trans (s6.trans s7))
      obtain ⟨dx2, v2, hv2, _⟩ := F2.slt
      refine ⟨_, rfl, prop_pent F2 fun t2 w2 => ⟨_, rfl, a2, dx2, _, rfl, hv2, a2, 13, _, rfl, F2, p13, (show ∀ z ∈ [1, 0, 10, 1], (0 : Int) ≤ z ∧ z < 13 by decide), by decide, fun H8 s8 => ⟨_, rfl, _, rfl, mp (F4.same s8) ⟨z2, fun q1 n1 => gen_upd H8 q1 (tp [1, 2]) n1 fun H9 s9 k9 => ⟨z2, fun q2 n2 => gen_upd H9 q2 (tp [3, 5]) n2 fun H10 s10 k10 => ⟨z2, fun q3 n3 => gen_upd H10 q3 (.tup [.ref q1, .ref q2]) n3 fun H11 s11 k11 => ?_⟩⟩⟩⟩⟩⟩
      have s810 := s8.trans ((s9.trans s10).trans s11)
      have tb : Tb H11 q3 [1, 2] [3, 5] := ⟨q1, q2, k11, (s10.trans s11) _ _ k9, s11 _ _ k10⟩
      dsimp only [tNil]
      refine ch_p (F4.same s810) p17 tb ⟨by decide, by decide, by decide, by decide⟩ (by decide) (by decide) (by decide) fun a5 H12 s12 F5 => prop_pent F5 fun t5 w5 => ?_
      rw [show md 17 (changed [1, 2] [3, 5] [1, 0, -3, 1]) = [1, 14, 16, 0] by decide +kernel] at w5
      refine ⟨z3, fun p6 m6 => gen_upd H12 p6 (tp [0, 26, 5]) m6 fun H13 s13 k13 => fun a6 dx x1 x2 x3 => mkP x1 x2 x3 k13 p13 (by decide) (by decide) (sho_l (by decide)) fun H14 s14 F6 => ?_⟩
      refine prop_pplain F6 p13 (rd_md p13 _) (by decide) (by decide) fun a7 H15 s15 F7 => prop_pent F7 fun t7 w7 => ?_
      rw [show plR 13 (md 13 [0, 26, 5]) = [0, 0, 1] by decide +kernel] at w7
      refine ⟨z4, fun L1 nL1 => gen_upd H15 L1 _ nL1 fun H16 s16 k16 => ?_⟩
      refine ⟨_, rfl, z4, fun o1 i1 => gen_upd H16 o1 (tp [1, 0, 10, 1]) i1 fun H17 s17 k17 => ⟨z4, fun o2 i2 => gen_upd H17 o2 (tp [1, 14, 16, 0]) i2 fun H18 s18 k18 => ⟨z3, fun o3 i3 => gen_upd H18 o3 (tp [0, 0, 1]) i3 fun H19 s19 k19 => ⟨z4, fun L2 nL2 => gen_upd H19 L2 _ nL2 fun H20 s20 k20 => ?_⟩⟩⟩⟩
      rw [ptx_13] at k16
      have v1 := ((s17.trans s18).trans s19).trans s20
      have u2 := s810.trans (s12.trans ((s13.trans s14).trans (s15.trans (s16.trans v1))))
      have w2' := u2 _ _ w2
      have w5' := (s13.trans (s14.trans (s15.trans (s16.trans v1)))) _ _ w5
      have w7' := (s16.trans v1) _ _ w7
      have dd : ∀ d : PyData, d = .list [.tuple ([1, 0, 10, 1].map PyData.int), .str (Str.ofString "form 1 0 10 1 over 13"), .tuple ([1, 14, 16, 0].map PyData.int), .tuple ([0, 0, 1].map PyData.int)] → PyData.eqv d d = true := fun d e => SeqAt.eqv_refl _ (by rw [e]; decide +kernel)
      refine ⟨.list [.tuple ([1, 0, 10, 1].map PyData.int), .str (Str.ofString "form 1 0 10 1 over 13"), .tuple ([1, 14, 16, 0].map PyData.int), .tuple ([0, 0, 1].map PyData.int)], .list [.tuple ([1, 0, 10, 1].map PyData.int), .str (Str.ofString "form 1 0 10 1 over 13"), .tuple ([1, 14, 16, 0].map PyData.int), .tuple ([0, 0, 1].map PyData.int)], .lst (SqL.of (v1 _ _ k16)) ?_, .lst (SqL.of k20) ?_, by decide +kernel, by decide +kernel, ?_⟩
      · exact .cons (.tup (SqT.of w2') (dpAll_ints _)) (.cons (.str _) (.cons (.tup (SqT.of w5') (dpAll_ints _)) (.cons (.tup (SqT.of w7') (dpAll_ints _)) .nil)))
      · exact .cons (.tup (SqT.of ((s18.trans (s19.trans s20)) _ _ k17)) (dpAll_ints _)) (.cons (.str _) (.cons (.tup (SqT.of ((s19.trans s20) _ _ k18)) (dpAll_ints _)) (.cons (.tup (SqT.of (s20 _ _ k19)) (dpAll_ints _)) .nil)))
      rw [dd _ rfl]
      refine ⟨false, rfl, iteF ⟨z1, fun p21 m21 => gen_upd H20 p21 (tp [0]) m21 fun H21 s21 k21 => ⟨p21, 13, _, rfl, rfl, SqT.of k21, by decide, by decide, by decide, by decide, fun p22 m22 => gen_upd H21 p22 (tp z13) m22 fun H22 s22 k22 => ?_⟩⟩⟩
      refine fun a23 dx x1 x2 x3 => mkP x1 x2 x3 k22 p101 (by decide) (by decide) (sho_l (by decide)) fun H23 s23 F23 => prop_pzero F23 ?_
      rw [show (md 101 z13).any (· != 0) = false by decide +kernel]
      refine ⟨true, rfl, iteT ⟨z2, fun p24 m24 => gen_upd H23 p24 (tp [0, 0]) m24 fun H24 s24 k24 => fun a25 dx x1 x2 x3 => mkP x1 x2 x3 k24 p13 (by decide) (by decide) (sho_l (by decide)) fun H25 s25 F25 => prop_pplain F25 p13 (rd_md p13 _) (by decide) (by decide) fun a26 H26 s26 F26 => ?_⟩⟩
      refine ⟨_, rfl, z2, fun p27 m27 => gen_upd H26 p27 (tp [13, -13]) m27 fun H27 s27 k27 => fun a28 dx x1 x2 x3 => mkP x1 x2 x3 k27 p13 (by decide) (by decide) (sho_l (by decide)) fun H28 s28 F28 => eq_prime T.oc_PrimeForm (F26.same (s27.trans s28)) F28 ?_⟩
      rw [show plR 13 (md 13 [0, 0]) = md 13 [13, -13] by decide +kernel, decide_eq_true rfl, decide_eq_true rfl]
      exact q H28
end
end K49

set_option Elab.async false
set_option linter.all false
set_option maxRecDepth 100000
set_option maxHeartbeats 0
namespace K49
open PySem PySem.Spec PyProof.Rows L2
theorem facts {P : Program} {w : World} {K : PySem.W.Frag} {h : Heap} {mg : Str → Option Value} {f : Addr} (X : K.In h) (G : h.Ns mainGlobals mg) (hfa : mg ("law" : Str) = some (.ref f)) (c : HookG.SaysG faL fnL exL K) :
    ∃ fd : FuncData, (∀ (s : Shared) (v : Value), BindsTo s fd ⟨[v], []⟩ [("_law_script", v)]) ∧ ∀ base : Heap, K.In base → base.Ns mainGlobals mg → FnOk P w K mg base CX0 10 f fd ["_law_script"] (spLaw K) := by
  obtain ⟨T⟩ := facts_of X G c
  have e := hfa.symm.trans T.g_law
  cases e
  have b := FunD.bindsA (ps := ["_law_script"]) T.F_law fun _ _ _ _ _ _ us hl => match us, hl with | [_], _ => rfl
  exact ⟨T.fd_law, fun s v => b s [v] rfl, fun base _ _ => ok_law T⟩
end K49
open PySem PySem.W PySem.Calls PyProof.Rows
theorem PySem.Challenge.cw_sourceforms_k49_whole_forms_over_primes_holds : PySem.Challenge.rw_sourceforms_k49_whole_forms_over_primes.Holds := by
  w_on; o_law
  refine HandSHeadRun.head_any (r := OpenLaw.row PySem.Challenge.rw_sourceforms_k49_whole_forms_over_primes) (q := view (OpenLaw.row PySem.Challenge.rw_sourceforms_k49_whole_forms_over_primes).prog [74]) (H := K49.hk) (ob := K49.ob) (M := 9000) (loose := K49.loose) (d := HandSHeadRun.topDef (OpenLaw.row PySem.Challenge.rw_sourceforms_k49_whole_forms_over_primes).prog 74) (kwd := []) K49.ob_eq
    (by kernel_rfl) (fun s => by kernel_rfl) K49.run (by kernel_rfl) (by kernel_rfl) (by kernel_rfl) (by rfl) (by first | assumption | decide +kernel) (by decide +kernel) ⟨rfl, rfl, rfl, rfl, rfl, by decide +kernel⟩ ?hw ?hc
  case hw => w_witness2
  case hc =>
    refine L2.walk_ofE (l := PySem.Challenge.rw_sourceforms_k49_whole_forms_over_primes) (n := 63) (k := 10) (x := "_law_script") (CX := L2.CX0) rfl (by decide) (by kernel_rfl) ⟨rfl, by decide, by decide⟩ ?F (fun _ _ _ _ z => z)
    intro w mg fa h Y G hmg0
    obtain ⟨K, KX, c⟩ := Y
    have hmg : mg ("law" : PySem.Str) = some (.ref fa) := by
      have e : (HandSHeadRun.topDef (OpenLaw.row PySem.Challenge.rw_sourceforms_k49_whole_forms_over_primes).prog 74).name = ("law" : PySem.Str) := by kernel_rfl
      rw [← e]
      exact hmg0
    obtain ⟨fd, hb, hF⟩ := K49.facts (P := (PySem.Challenge.rw_sourceforms_k49_whole_forms_over_primes).prog) (w := w) KX G hmg c
    exact ⟨K, fd, K49.spLaw K, KX, hb, fun H a ns hl _ hS => ⟨a, ns, rfl, hS, hl, fun _ => rfl⟩, hF⟩
