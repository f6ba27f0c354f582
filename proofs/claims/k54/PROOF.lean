import PyProof.Rows.All
import HandS.Call
import HandS.List
import HandS.More
import OpenK.KMeth
import OpenK.KOps
import HandS.Defaults
import HandS.Words
import HandS.ClsMeth
import KE.KSuper
import HandS.GenList
import Wide.All
import OpenK.AllK
import Wide.FinOn
import HandS.TupAny
import HandS.Style
import HandS.Iter
import HandS.Walk
import KE.GoesEnum
import PyProof.EnumMake
import PyProof.RulesMatch
import PyProof.DictUpdate
import HandS.Dict
import HandS.Base
import HandS.Comp
import HandS.Text
import HandS.Ends
import HandS.WordsList
import HandS.IsInst
import HandS.Evl
import HandS.Property
import HandS.Star
import HandS.MakeKwOnly
import HandS.WideBits
import HandS.Wide
import HandS.HeadHook4
import PySem.Challenge.RW_enumcraft_k54_whole_order_of_members
import KE.KStateDown
import HandS.Head0
import HandS.Head1
import HandS.Head2
import HandS.HeadEnd
section
set_option Elab.async false
set_option linter.all false
set_option maxRecDepth 100000
set_option maxHeartbeats 2000000
/-! R1: operators of own classes on tracked instances: binary ones, comparisons, reflected ones, !=, identity ==, in, len, bool, subscripts. -/
namespace EC
open PySem PySem.Spec PyProof.Rows L2

theorem cback {P : Value → Shared → Prop} {z : V} {v : Value} {s' : Shared} (r : RelV z v) (h : P v s') : PySem.W.CmpBack P v s' := by
  cases z <;> first
    | (obtain ⟨t, e⟩ := r; cases e; exact h)
    | (cases r; exact h)

section
variable {prog : Program} {w : World} {M : Model} {A : Around} {E : Value → Shared → Prop} {s : Shared} {K : PySem.W.Frag} {x y C D f : Addr} {ox oy : Obj} {od od' : Option Obj}

/-- a special method that is a slot of object: found, bound, called -/
theorem ifBound_blt {nm : Str} {id : String} {args : List Value} {Q : Option Value → Shared → Prop} (X : K.In s.heap) (I : PySem.W.InstAt s.heap x ox C od) (hs : PySem.W.findIn K (.ref C) nm = some (some (.builtin id)))
    (sl : Slot "object" nm id) (h : wpAny M A (call (.builtin id) (.ref x :: args)) (fun v => Q (some v)) E s) : wpAny M A (callSpecialIfBound? (.ref x) nm args) Q E s := by
  simp only [callSpecialIfBound?, bindSpecialIfBound?]
  refine wpAny_holding (wpAny_bind (wpAny_bind (wpAny_bind (I.type.here ((PySem.W.looks_findIn X hs).here ?_)))))
  refine wpAny_bind (wpAny_askSetting (wpAny_ite ?_))
  have fin : wpAny M A (call (.builtin id) ([.ref x] ++ args) >>= fun v => pure (some v)) Q E s := wpAny_bind (wpAny_mono h (fun v s' h' => wpAny_pure h') fun _ _ h' => h')
  split
  · exact wpAny_bind (wpAny_of_eq (sl.bind _) (wpAny_pure (by exact fin)))
  · exact wpAny_tryCatch (wpAny_bind (wpAny_of_eq (sl.bind _) (wpAny_pure (by exact fin))))

theorem declined_gt {Q : Fin → Shared → Prop} {a b : Value} (hq : Q (.done (.ret .notImplemented)) s) : wpAny M A (Builtin.«object.__gt__» ⟨[a, b], []⟩) Q E s := by
  show wpAny M A (slotArgs "__gt__" 1 ⟨[a, b], []⟩ >>= fun _ => ret .notImplemented) Q E s
  exact wpAny_bind (wpAny_pure (wpAny_pure hq))
theorem declined_ge {Q : Fin → Shared → Prop} {a b : Value} (hq : Q (.done (.ret .notImplemented)) s) : wpAny M A (Builtin.«object.__ge__» ⟨[a, b], []⟩) Q E s := by
  show wpAny M A (slotArgs "__ge__" 1 ⟨[a, b], []⟩ >>= fun _ => ret .notImplemented) Q E s
  exact wpAny_bind (wpAny_pure (wpAny_pure hq))
theorem k_gt : builtinKind "object.__gt__" = some .slot := by decide +kernel
theorem k_ge : builtinKind "object.__ge__" = some .slot := by decide +kernel
theorem sp_gt : splitId "object.__gt__" = some ("object", "__gt__") := by decide +kernel
theorem sp_ge : splitId "object.__ge__" = some ("object", "__ge__") := by decide +kernel
theorem call_ogt {b : Value} {Q : Value → Shared → Prop} (X : K.In s.heap) (I : PySem.W.InstAt s.heap x ox C od) (hm : PySem.W.mroIn K C (.type "object") = some true) (hq : Q .notImplemented s) :
    wpAny (model prog w) A (call (.builtin "object.__gt__") [.ref x, b]) Q E s :=
  wpAny_call (codeAny_call_builtin F.slot_object_gt.plain F.entry_object_gt (PySem.W.check_slot k_gt sp_gt (I.type.andThen (PySem.W.looks_mroIn X hm)) (F.args_object_gt_2 _ _) (declined_gt hq)))
theorem call_oge {b : Value} {Q : Value → Shared → Prop} (X : K.In s.heap) (I : PySem.W.InstAt s.heap x ox C od) (hm : PySem.W.mroIn K C (.type "object") = some true) (hq : Q .notImplemented s) :
    wpAny (model prog w) A (call (.builtin "object.__ge__") [.ref x, b]) Q E s :=
  wpAny_call (codeAny_call_builtin F.slot_object_ge.plain F.entry_object_ge (PySem.W.check_slot k_ge sp_ge (I.type.andThen (PySem.W.looks_mroIn X hm)) (F.args_object_ge_2 _ _) (declined_ge hq)))

/-- a comparison of two instances of one class whose own side declines: the reflected method of the right one -/
theorem cmp_refl {op : CmpOp} {Q : Value → Shared → Prop} (hu : A.units < cLine) (X : K.In s.heap) (I : PySem.W.InstAt s.heap x ox C od) (J : PySem.W.InstAt s.heap y oy C od')
    (hdec : wpAny (model prog w) A (tryCompare (.ref x) (cmpInfo op).2.1 (.ref y)) (fun r s' => r = none ∧ s' = s) E s)
    (hs : PySem.W.findIn K (.ref C) (cmpInfo op).2.2 = some (some (.ref f))) (hf : PySem.W.isFn K (.ref f) = true)
    (h : wpAny (model prog w) A (call (.ref f) [.ref y, .ref x]) (PySem.W.CmpBack Q) E s) : wpAny (model prog w) A (richCompare op (.ref x) (.ref y)) Q E s := by
  have one : wpAny (model prog w) A (tryCompare (.ref y) (cmpInfo op).2.2 (.ref x)) (fun r s' => ∃ v, r = some v ∧ Q v s') E s := by
    unfold tryCompare
    refine wpAny_bind (PySem.W.ifBound_K X J hs hf (wpAny_mono h (fun v s' hv => ?_) fun _ _ e => e))
    cases v <;> first | exact hv.elim | exact wpAny_pure ⟨_, rfl, hv⟩
  unfold richCompare
  simp only [oneThing_ref]
  refine wpAny_holding (wpAny_bind (wpAny_cRoomFor hu ?_))
  refine wpAny_bind (I.type.here (wpAny_bind (J.type.here ?_)))
  rw [if_neg (by simp)]
  refine wpAny_bind (wpAny_pure ?_)
  simp only [Bool.false_eq_true, if_false, Bool.not_false, if_true]
  refine wpAny_bind (m := tryCompare (.ref x) _ (.ref y)) (wpAny_mono hdec (fun r s1 z => ?_) fun _ _ e => e)
  obtain ⟨z1, z2⟩ := z
  subst z1
  subst z2
  refine wpAny_bind (m := tryCompare (.ref y) _ (.ref x)) (wpAny_mono one (fun r s2 z => ?_) fun _ _ e => e)
  obtain ⟨v, rfl, hq⟩ := z
  exact wpAny_pure hq
theorem cmp_gt {Q : Value → Shared → Prop} (hu : A.units < cLine) (X : K.In s.heap) (I : PySem.W.InstAt s.heap x ox C od) (J : PySem.W.InstAt s.heap y oy C od') (hm : PySem.W.mroIn K C (.type "object") = some true)
    (hg : PySem.W.findIn K (.ref C) "__gt__" = some (some (.builtin "object.__gt__")))
    (hs : PySem.W.findIn K (.ref C) "__lt__" = some (some (.ref f))) (hf : PySem.W.isFn K (.ref f) = true)
    (h : wpAny (model prog w) A (call (.ref f) [.ref y, .ref x]) (PySem.W.CmpBack Q) E s) : wpAny (model prog w) A (richCompare .Gt (.ref x) (.ref y)) Q E s := by
  refine cmp_refl (op := .Gt) hu X I J ?_ hs hf h
  unfold tryCompare
  exact wpAny_bind (ifBound_blt X I hg F.slot_object_gt (call_ogt X I hm (wpAny_pure ⟨rfl, rfl⟩)))
theorem cmp_ge {Q : Value → Shared → Prop} (hu : A.units < cLine) (X : K.In s.heap) (I : PySem.W.InstAt s.heap x ox C od) (J : PySem.W.InstAt s.heap y oy C od') (hm : PySem.W.mroIn K C (.type "object") = some true)
    (hg : PySem.W.findIn K (.ref C) "__ge__" = some (some (.builtin "object.__ge__")))
    (hs : PySem.W.findIn K (.ref C) "__le__" = some (some (.ref f))) (hf : PySem.W.isFn K (.ref f) = true)
    (h : wpAny (model prog w) A (call (.ref f) [.ref y, .ref x]) (PySem.W.CmpBack Q) E s) : wpAny (model prog w) A (richCompare .GtE (.ref x) (.ref y)) Q E s := by
  refine cmp_refl (op := .GtE) hu X I J ?_ hs hf h
  unfold tryCompare
  exact wpAny_bind (ifBound_blt X I hg F.slot_object_ge (call_oge X I hm (wpAny_pure ⟨rfl, rfl⟩)))

/-- x != y by the own == of the class: object's slot turns its answer -/
theorem cmp_ne {Q : Value → Shared → Prop} (hu : A.units + 1 < cLine) (X : K.In s.heap) (I : PySem.W.InstAt s.heap x ox C od) (J : PySem.W.InstAt s.heap y oy C od') (hm : PySem.W.mroIn K C (.type "object") = some true)
    (hg : PySem.W.findIn K (.ref C) "__ne__" = some (some (.builtin "object.__ne__")))
    (hs : PySem.W.findIn K (.ref C) "__eq__" = some (some (.ref f))) (hf : PySem.W.isFn K (.ref f) = true)
    (h : wpAny (model prog w) A.in1 (call (.ref f) [.ref x, .ref y]) (fun v s' => ∃ b, v = .bool b ∧ Q (.bool (!b)) s') E s) : wpAny (model prog w) A (richCompare .NotEq (.ref x) (.ref y)) Q E s := by
  have two : wpAny (model prog w) A (tryCompare (.ref x) (cmpInfo .NotEq).2.1 (.ref y)) (fun r s' => ∃ v, r = some v ∧ Q v s') E s := by
    unfold tryCompare
    refine wpAny_bind (ifBound_blt (nm := "__ne__") X I hg F.cmp_object.ne (wpAny_call (codeAny_call_builtin F.cmp_object.ne.plain F.cmpEntry_ne (PySem.W.check_slot F.cmpKind_ne F.cmpSplit_ne (I.type.andThen (PySem.W.looks_mroIn X hm)) (F.cmpArgs_ne _ _) ?_))))
    unfold Builtin.«object.__ne__»
    refine wpAny_bind (wpAny_of_eq (a := (.ref x, [.ref y])) rfl ?_)
    dsimp only
    refine wpAny_bind (wpAny_cRoomFor (show A.in1.units < cLine from hu) ?_)
    refine wpAny_bind (PySem.W.ifBound_K (name := "__eq__") X I hs hf (wpAny_mono h (fun v s' hv => ?_) fun _ _ e => e))
    obtain ⟨b, rfl, hq⟩ := hv
    refine wpAny_bind (wpAny_truthy_bool ?_)
    exact wpAny_pure (wpAny_pure ⟨_, rfl, hq⟩)
  unfold richCompare
  simp only [oneThing_ref]
  refine wpAny_holding (wpAny_bind (wpAny_cRoomFor (Nat.lt_of_succ_lt hu) ?_))
  refine wpAny_bind (I.type.here (wpAny_bind (J.type.here ?_)))
  rw [if_neg (by simp)]
  refine wpAny_bind (wpAny_pure ?_)
  simp only [Bool.false_eq_true, if_false]
  refine wpAny_bind (m := tryCompare (.ref x) _ (.ref y)) (wpAny_mono two (fun r s2 z => ?_) fun _ _ e => e)
  obtain ⟨v, rfl, hq⟩ := z
  exact wpAny_pure hq

/-- x == y of two instances without an own ==: the same object -/
theorem cmp_same {Q : Value → Shared → Prop} (hu : A.units < cLine) (X : K.In s.heap) (I : PySem.W.InstAt s.heap x ox C od) (J : PySem.W.InstAt s.heap y oy C od') (hm : PySem.W.mroIn K C (.type "object") = some true)
    (hg : PySem.W.findIn K (.ref C) "__eq__" = some (some (.builtin "object.__eq__"))) (h : Q (.bool (decide (x = y))) s) : wpAny (model prog w) A (richCompare .Eq (.ref x) (.ref y)) Q E s := by
  have hx := I.at_
  have hy := J.at_
  have hnt : ox.cls ≠ .type "tuple" := by rw [I.cls]; intro e; cases e
  have hnt2 : oy.cls ≠ .type "tuple" := by rw [J.cls]; intro e; cases e
  unfold richCompare
  simp only [oneThing_ref]
  refine wpAny_holding (wpAny_bind (wpAny_cRoomFor hu ?_))
  refine wpAny_bind (I.type.here (wpAny_bind (J.type.here ?_)))
  rw [if_neg (by simp)]
  refine wpAny_bind (wpAny_pure ?_)
  simp only [Bool.false_eq_true, if_false, Bool.not_false, if_true]
  have callE : ∀ {a b : Addr} {oa : Obj} {oda : Option Obj} {Q : Value → Shared → Prop}, PySem.W.InstAt s.heap a oa C oda → wpAny (model prog w) A.in1 (Builtin.«object.__eq__» ⟨[.ref a, .ref b], []⟩)
      (fun fin s' => match fin with | .done f => wants Q E (.ok f) s' | .again c' => c'.quiet = true ∧ codeAny (model prog w) A c' (wants Q E) s') (fun e s' => wants Q E (.error e) s') s →
      wpAny (model prog w) A (call (.builtin "object.__eq__") [.ref a, .ref b]) Q E s := fun Ia hb =>
    wpAny_call (codeAny_call_builtin F.cmp_object.eq.plain F.cmpEntry_eq (PySem.W.check_slot F.cmpKind_eq F.cmpSplit_eq (Ia.type.andThen (PySem.W.looks_mroIn X hm)) (F.cmpArgs_eq _ _) hb))
  by_cases hxy : x = y
  · subst hxy
    refine wpAny_bind (m := tryCompare (.ref x) _ (.ref x)) ?_
    unfold tryCompare
    refine wpAny_bind (ifBound_blt (nm := "__eq__") X I hg F.cmp_object.eq (callE I (objEq_entry_same ?_)))
    refine wpAny_pure ?_
    refine wpAny_pure ?_
    rw [show decide (x = x) = true from decide_eq_true rfl] at h
    exact h
  · refine wpAny_bind (m := tryCompare (.ref x) _ (.ref y)) ?_
    unfold tryCompare
    refine wpAny_bind (ifBound_blt (nm := "__eq__") X I hg F.cmp_object.eq (callE I (objEq_entry_other hxy hx hy hnt ?_)))
    refine wpAny_pure ?_
    refine wpAny_bind (m := tryCompare (.ref y) _ (.ref x)) ?_
    unfold tryCompare
    refine wpAny_bind (ifBound_blt (nm := "__eq__") X J hg F.cmp_object.eq (callE J (objEq_entry_other (Ne.symm hxy) hy hx hnt2 ?_)))
    refine wpAny_pure ?_
    refine wpAny_bind (wpAny_rule (wpAny_bind (wpAny_isSame_ref_other hxy hx hy hnt (wpAny_pure ?_))))
    rw [show decide (x = y) = false from decide_eq_false hxy] at h
    exact h
end

/-! ### over the layer -/
section
variable {X : Cx} {CX : CXT} {n : Nat} {C g : Addr} {fd : FuncData} {ps : List Str} {sp : Sp} {E : XK} {dvs : List V} {ds : List Value}
theorem ins_at {pins : List (Addr × Obj)} {σ : L2.St} {H : Hp} {s : Shared} {a dx : Addr} {fs : List (Str × V)} (I : Inv X pins σ H s) (h : H a = some (.ins C dx fs)) : ∃ od, PySem.W.InstAt s.heap a (PySem.W.instObj C dx) C (some od) := by
  obtain ⟨mA, J, _⟩ := ins_get I.hok h
  obtain ⟨od, J, _⟩ := J.look
  exact ⟨od, J⟩
/-- the callee runs one level of C below -/
theorem run_in1 {pins : List (Addr × Obj)} {σ : L2.St} {H : Hp} {s : Shared} {Q : VK} {us : List Value} {vs : List V} (F : FnOk X.prog X.w X.K X.mg X.base CX n g fd ps sp) (hr : Room (n + 1) X.A) (hb : Binds X.K fd ps ds) (hd : Vals dvs ds) (hx : Passes CX X E)
    (I : Inv X pins σ H s) (r : Vals vs us) (h : sp (vs ++ dvs) H Q E) : wpAny (model X.prog X.w) X.A.in1 (call (.ref g) us) (EP X pins σ Q) X.xe s := by
  have r2 : Vals (vs ++ dvs) (us ++ ds) := r.append hd
  have hl : (us ++ ds).length = ps.length := by rw [← r2.length]; exact F.len _ _ _ _ h
  refine wpAny_call (codeAny_mono (F.run X.A.in1 X.stack s H ⟨us, []⟩ (us ++ ds) (vs ++ dvs) Q E hr.in1 I.env0.in1 (hb s us I.kIn hl) r2 h) fun r s' hq => ?_)
  cases r with
  | error e => exact hx pins σ H s e s' I hq
  | ok fl =>
    cases fl with
    | ret u => exact I.after hq
    | next => exact False.elim hq
    | brk => exact False.elim hq
    | cont => exact False.elim hq
/-- two instances of C, to the promise sp of the def -/
def rOwn (C : Addr) (sp : Sp) (E : XK) : R2 := fun x y H Q => ∃ a b dx dy fs gs, x = .ref a ∧ y = .ref b ∧ H a = some (.ins C dx fs) ∧ H b = some (.ins C dy gs) ∧ sp [x, y] H Q E
/-- .. the right one's method is asked -/
def rOwnR (C : Addr) (sp : Sp) (E : XK) : R2 := fun x y H Q => ∃ a b dx dy fs gs, x = .ref a ∧ y = .ref b ∧ H a = some (.ins C dx fs) ∧ H b = some (.ins C dy gs) ∧ sp [y, x] H Q E
/-- .. the answer turned -/
def rOwnN (C : Addr) (sp : Sp) (E : XK) : R2 := fun x y H Q => ∃ a b dx dy fs gs, x = .ref a ∧ y = .ref b ∧ H a = some (.ins C dx fs) ∧ H b = some (.ins C dy gs) ∧ sp [x, y] H (fun v H' => ∃ k, v = .bl k ∧ Q (.bl (!k)) H') E
theorem op_bin {op : Operator} (sf : PySem.W.selfFirst X.K C = true) (m : Meth X.K C (PySem.dunder op.info.2) g) (F : FnOk X.prog X.w X.K X.mg X.base CX n g fd ps sp) (hr : Room n X.A) (hb : Binds X.K fd ps []) (hx : Passes CX X E) : OpR X (binaryOp op) (rOwn C sp E) := by
  intro pins s σ H x y v u Q I rx ry h
  obtain ⟨a, b, dx, dy, fs, gs, rfl, rfl, ha, hb', q⟩ := h
  cases rx
  cases ry
  obtain ⟨od, J⟩ := ins_at I ha
  obtain ⟨od', J'⟩ := ins_at I hb'
  obtain ⟨m', hF⟩ := I.fr
  refine PySem.W.binop_K hF I.ok.mod.kin J J'.type sf m.at_ m.fn ?_
  exact thn (run_fn (us := [.ref a, .ref b]) (vs := [.ref a, .ref b]) F hr hb .nil hx I (.cons rfl (.cons rfl .nil)) q) fun w s' ⟨z, H', I', rz, qz⟩ => cback rz ⟨z, H', I', rz, qz⟩
theorem op_cmp {op : CmpOp} (m : Meth X.K C (cmpInfo op).2.1 g) (F : FnOk X.prog X.w X.K X.mg X.base CX n g fd ps sp) (hr : Room n X.A) (hb : Binds X.K fd ps []) (hx : Passes CX X E) (hop : ∀ a b, compareOp op a b = richCompare op a b := by intro _ _; rfl) : OpR X (compareOp op) (rOwn C sp E) := by
  intro pins s σ H x y v u Q I rx ry h
  obtain ⟨a, b, dx, dy, fs, gs, rfl, rfl, ha, hb', q⟩ := h
  cases rx
  cases ry
  obtain ⟨od, J⟩ := ins_at I ha
  obtain ⟨od', J'⟩ := ins_at I hb'
  obtain ⟨m', hF⟩ := I.fr
  rw [hop]
  refine PySem.W.cmp_K (op := op) (tb := .ref C) hr.units0 hF I.ok.mod.kin J J'.type (by simp [PySem.W.notFirst]) m.at_ m.fn ?_
  exact thn (run_fn (us := [.ref a, .ref b]) (vs := [.ref a, .ref b]) F hr hb .nil hx I (.cons rfl (.cons rfl .nil)) q) fun w s' ⟨z, H', I', rz, qz⟩ => cback rz ⟨z, H', I', rz, qz⟩
theorem op_gtO (hm : PySem.W.mroIn X.K C (.type "object") = some true) (hg : PySem.W.findIn X.K (.ref C) "__gt__" = some (some (.builtin "object.__gt__"))) (m : Meth X.K C "__lt__" g) (F : FnOk X.prog X.w X.K X.mg X.base CX n g fd ps sp) (hr : Room n X.A) (hb : Binds X.K fd ps []) (hx : Passes CX X E) :
    OpR X (compareOp .Gt) (rOwnR C sp E) := by
  intro pins s σ H x y v u Q I rx ry h
  obtain ⟨a, b, dx, dy, fs, gs, rfl, rfl, ha, hb', q⟩ := h
  cases rx
  cases ry
  obtain ⟨od, J⟩ := ins_at I ha
  obtain ⟨od', J'⟩ := ins_at I hb'
  refine cmp_gt hr.units0 I.kIn J J' hm hg m.at_ m.fn ?_
  exact thn (run_fn (us := [.ref b, .ref a]) (vs := [.ref b, .ref a]) F hr hb .nil hx I (.cons rfl (.cons rfl .nil)) q) fun w s' ⟨z, H', I', rz, qz⟩ => cback rz ⟨z, H', I', rz, qz⟩
theorem op_geO (hm : PySem.W.mroIn X.K C (.type "object") = some true) (hg : PySem.W.findIn X.K (.ref C) "__ge__" = some (some (.builtin "object.__ge__"))) (m : Meth X.K C "__le__" g) (F : FnOk X.prog X.w X.K X.mg X.base CX n g fd ps sp) (hr : Room n X.A) (hb : Binds X.K fd ps []) (hx : Passes CX X E) :
    OpR X (compareOp .GtE) (rOwnR C sp E) := by
  intro pins s σ H x y v u Q I rx ry h
  obtain ⟨a, b, dx, dy, fs, gs, rfl, rfl, ha, hb', q⟩ := h
  cases rx
  cases ry
  obtain ⟨od, J⟩ := ins_at I ha
  obtain ⟨od', J'⟩ := ins_at I hb'
  refine cmp_ge hr.units0 I.kIn J J' hm hg m.at_ m.fn ?_
  exact thn (run_fn (us := [.ref b, .ref a]) (vs := [.ref b, .ref a]) F hr hb .nil hx I (.cons rfl (.cons rfl .nil)) q) fun w s' ⟨z, H', I', rz, qz⟩ => cback rz ⟨z, H', I', rz, qz⟩
theorem op_neO (hm : PySem.W.mroIn X.K C (.type "object") = some true) (hg : PySem.W.findIn X.K (.ref C) "__ne__" = some (some (.builtin "object.__ne__"))) (m : Meth X.K C "__eq__" g) (F : FnOk X.prog X.w X.K X.mg X.base CX n g fd ps sp) (hr : Room (n + 1) X.A) (hb : Binds X.K fd ps []) (hx : Passes CX X E) :
    OpR X (compareOp .NotEq) (rOwnN C sp E) := by
  intro pins s σ H x y v u Q I rx ry h
  obtain ⟨a, b, dx, dy, fs, gs, rfl, rfl, ha, hb', q⟩ := h
  cases rx
  cases ry
  obtain ⟨od, J⟩ := ins_at I ha
  obtain ⟨od', J'⟩ := ins_at I hb'
  refine cmp_ne (by have := hr.un; omega) I.kIn J J' hm hg m.at_ m.fn ?_
  refine thn (run_in1 (us := [.ref a, .ref b]) (vs := [.ref a, .ref b]) F hr hb .nil hx I (.cons rfl (.cons rfl .nil)) q) fun w s' ⟨z, H', I', rz, k, ez, qz⟩ => ?_
  subst ez
  cases rz
  exact ⟨k, rfl, .bl (!k), H', I', rfl, qz⟩
/-- two instances of a class without an own ==: the same object -/
def rSame (C : Addr) : R2 := fun x y H Q => ∃ a b dx dy fs gs, x = .ref a ∧ y = .ref b ∧ H a = some (.ins C dx fs) ∧ H b = some (.ins C dy gs) ∧ Q (.bl (decide (a = b))) H
theorem op_sameO (hm : PySem.W.mroIn X.K C (.type "object") = some true) (hg : PySem.W.findIn X.K (.ref C) "__eq__" = some (some (.builtin "object.__eq__"))) (hr : Room n X.A) : OpR X (compareOp .Eq) (rSame C) := by
  intro pins s σ H x y v u Q I rx ry h
  obtain ⟨a, b, dx, dy, fs, gs, rfl, rfl, ha, hb', q⟩ := h
  cases rx
  cases ry
  obtain ⟨od, J⟩ := ins_at I ha
  obtain ⟨od', J'⟩ := ins_at I hb'
  exact cmp_same hr.units0 I.kIn J J' hm hg ⟨.bl (decide (a = b)), H, I, rfl, q⟩
/-- y in x, x an instance -/
def rInO (C : Addr) (sp : Sp) (E : XK) : R2 := fun y x H Q => ∃ a dx fs, x = .ref a ∧ H a = some (.ins C dx fs) ∧ sp [x, y] H (fun v H' => ∃ k, v = .bl k ∧ Q (.bl k) H') E
theorem op_inO (m : Meth X.K C "__contains__" g) (F : FnOk X.prog X.w X.K X.mg X.base CX n g fd ps sp) (hr : Room n X.A) (hb : Binds X.K fd ps []) (hx : Passes CX X E) : OpR X (compareOp .In) (rInO C sp E) := by
  intro pins s σ H y x u v Q I ry rx h
  obtain ⟨a, dx, fs, rfl, ha, q⟩ := h
  cases rx
  obtain ⟨od, J⟩ := ins_at I ha
  obtain ⟨m', hF⟩ := I.fr
  refine PySem.W.in_K hF I.ok.mod.kin J m.at_ m.fn ?_
  refine thn (run_fn (us := [.ref a, u]) (vs := [.ref a, y]) F hr hb .nil hx I (.cons rfl (.cons ry .nil)) q) fun w s' ⟨z, H', I', rz, k, ez, qz⟩ => ?_
  subst ez
  cases rz
  exact wpAny_truthy_bool ⟨.bl k, H', I', rfl, qz⟩
/-- len(x) -/
def rLenO (C : Addr) (sp : Sp) (E : XK) : List V → Hp → VK → Prop := fun xs H Q => ∃ a dx fs, xs = [.ref a] ∧ H a = some (.ins C dx fs) ∧ sp [.ref a] H (fun v H' => ∃ k : Int, v = .int k ∧ 0 ≤ k ∧ k < 2 ^ 63 ∧ Q (.int k) H') E
theorem call_lenO (m : Meth X.K C "__len__" g) (F : FnOk X.prog X.w X.K X.mg X.base CX n g fd ps sp) (hr : Room (n + 1) X.A) (hb : Binds X.K fd ps []) (hx : Passes CX X E) : CallR X (.builtin "len") (rLenO C sp E) := by
  intro pins s σ H xs us Q I r h
  obtain ⟨a, dx, fs, rfl, ha, q⟩ := h
  obtain ⟨u, rfl, rx⟩ := vals1 r
  cases rx
  obtain ⟨od, J⟩ := ins_at I ha
  obtain ⟨m', hF⟩ := I.fr
  refine PySem.W.len_K hF I.ok.mod.kin J m.at_ m.fn ?_
  refine thn (run_in1 (us := [.ref a]) (vs := [.ref a]) F hr hb .nil hx I (.cons rfl .nil) q) fun w s' ⟨z, H', I', rz, k, ez, k0, k1, qz⟩ => ?_
  subst ez
  obtain ⟨t, rfl⟩ := rz
  exact ⟨⟨k0, k1⟩, .int k, H', I'.tok _, ⟨_, rfl⟩, qz⟩
/-- bool(x) -/
def rBoolO (C : Addr) (sp : Sp) (E : XK) : V → Hp → (Bool → Hp → Prop) → Prop := fun x H Q => ∃ a dx fs, x = .ref a ∧ H a = some (.ins C dx fs) ∧ sp [.ref a] H (fun v H' => ∃ k, v = .bl k ∧ Q k H') E
theorem tru_own (m : Meth X.K C "__bool__" g) (F : FnOk X.prog X.w X.K X.mg X.base CX n g fd ps sp) (hr : Room n X.A) (hb : Binds X.K fd ps []) (hx : Passes CX X E) : TruR X (rBoolO C sp E) := by
  intro pins s σ H x v Q I rx h
  obtain ⟨a, dx, fs, rfl, ha, q⟩ := h
  cases rx
  obtain ⟨od, J⟩ := ins_at I ha
  obtain ⟨m', hF⟩ := I.fr
  refine PySem.W.truthy_K hF I.ok.mod.kin J m.at_ m.fn ?_
  refine thn (run_fn (us := [.ref a]) (vs := [.ref a]) F hr hb .nil hx I (.cons rfl .nil) q) fun w s' ⟨z, H', I', rz, k, ez, qz⟩ => ?_
  subst ez
  cases rz
  exact ⟨H', I', qz⟩
end
end EC
end
section
set_option Elab.async false
set_option linter.all false
set_option maxRecDepth 100000
set_option maxHeartbeats 2000000
/-! R2: a def of a class body that says super().m(..): its closure holds the cell of __class__. -/
namespace EC
open PySem PySem.Spec PyProof.Rows L2

abbrev envS (qual : Str) (scope : Scope) (L f cda cc : Addr) : Env := PySem.W.envX qual scope L f (.ref cda) [("__class__", cc)]
/-- the context of such a def's body -/
def cxS (P : Program) (w : World) (K : PySem.W.Frag) (mg : Str → Option Value) (base : Heap) (N : List Str) (qual : Str) (scope : Scope) (f cda cc : Addr) (A : Around) (outer : List Env) (s : Shared) (H : Hp) : Cx where
  prog := P
  w := w
  K := K
  mg := mg
  base := base
  A := A.deeper (envS qual scope s.heap.objs.size f cda cc)
  N := N
  s_0 := s
  H_0 := H
  env := envS qual scope s.heap.objs.size f cda cc
  outer := outer
  stack := envS qual scope s.heap.objs.size f cda cc :: outer
  ex := []
  calm := true
  fn := fun x => !(x == ("__class__" : Str))
  pn := []
  xe := fun _ _ => False

/-- a def as it stands behind the top -/
structure FunS (K : PySem.W.Frag) (x qual : Str) (st : Stmt) (dvs : List V) (kws : List (Str × V)) (f cc D : Addr) (file : Str) (fd : FuncData) : Prop where
  ex : ∃ (oc : Value) (od : Option Addr) (dV kV doc pm : Value) (an : Option Addr) (cda : Addr) (ct : Value) (osl : Array (Option Value)),
    fd = PySem.W.fnX x qual (defArgs st) (defBody st) (defScope st) [("__class__", cc)] dV kV doc pm an (.ref cda) ct ∧ K.lookup f = some ⟨oc, od, .func fd, osl⟩ ∧ PySem.W.codeIn K (.ref cda) qual = true ∧ DflV K dV dvs ∧ KwdV K kV kws ∧
      ∃ ccl cdd vs ccs tf, K.lookup cda = some ⟨ccl, cdd, .fields vs, ccs⟩ ∧ vs[2]? = some (.str file tf)
  cell : ∃ cl cld csl, K.lookup cc = some ⟨cl, cld, .cell (some (.ref D)), csl⟩
  kp : PySem.W.keepIn K (.ref f) = true

/-- names of such a scope: the parameters first; local or __class__ -/
structure ScopeS (N P : List Str) (sc : Scope) : Prop where
  kind : sc.kind = .function
  co : sc.isCoroutine = false
  gen : sc.isGenerator = false
  nd : N.Nodup
  pre : N.take P.length = P
  par : ∀ x ∈ P, sc.names.lookup x = some .local
  noCell : ∀ y ∈ sc.names, y.2 ≠ .cell
  free : ∀ y ∈ sc.names, y.2 = .free → y.1 = ("__class__" : Str)

section
variable {P : Program} {w : World} {K : PySem.W.Frag} {mg : Str → Option Value} {base : Heap} {N ps : List Str} {qual : Str} {scope : Scope} {f cda cc D : Addr} {A : Around} {outer : List Env} {s : Shared} {H : Hp}
theorem look_uniq {x : Str} {u : Value} : ∀ {l : List (Str × Value)}, (x, u) ∈ l → (∀ v, (x, v) ∈ l → v = u) → l.lookup x = some u
  | (k, v) :: r, mem, uq => by
    rw [List.lookup_cons]
    cases q : x == k with
    | true =>
      have e : x = k := beq_iff_eq.mp q
      subst e
      rw [uq v List.mem_cons_self]
    | false =>
      rcases List.mem_cons.mp mem with e | e
      · cases e
        simp at q
      · exact look_uniq e fun v' h => uq v' (List.mem_cons_of_mem _ h)
theorem look_zip {ps : List Str} {us : List Value} {i : Nat} {x : Str} {u : Value} (nd : ps.Nodup) (h1 : ps[i]? = some x) (h2 : us[i]? = some u) : (ps.zip us).reverse.lookup x = some u := by
  refine look_uniq ?_ fun v hv => ?_
  · rw [List.mem_reverse]
    exact List.mem_iff_getElem?.mpr ⟨i, List.getElem?_zip_eq_some.mpr ⟨h1, h2⟩⟩
  · rw [List.mem_reverse] at hv
    obtain ⟨j, hj⟩ := List.mem_iff_getElem?.mp hv
    obtain ⟨g1, g2⟩ := List.getElem?_zip_eq_some.mp hj
    obtain ⟨p1, e1⟩ := List.getElem?_eq_some_iff.mp h1
    obtain ⟨p2, e2⟩ := List.getElem?_eq_some_iff.mp g1
    have e : i = j := (List.getElem_inj nd).mp (e1.trans e2.symm)
    subst e
    rw [h2] at g2
    exact (Option.some.inj g2).symm
theorem invS_start {file : Str} {fd : FuncData} {us : List Value} {vs : List V} {h₀ : Heap} {t' : Nat} {o : Obj} (S : ScopeS N ps scope) (hd : A.handled = none) (e0 : Env0 P w K mg base A outer s H) (hl : vs.length = ps.length) (r : Vals vs us)
    (hcell : K.lookup cc = some o) (hcd : o.data = .cell (some (.ref D)))
    (ns : h₀.Ns s.heap.objs.size fun x => (ps.zip us).reverse.lookup x) (hk : ∀ b o, s.heap.get? b = some o → h₀.get? b = some o) :
    Inv (cxS P w K mg base N qual scope f cda cc A outer s H) [] (L2.start N vs) H { s with heap := h₀, toks := t' } := by
  have hpl : ps.length ≤ N.length := by have := congrArg List.length S.pre; rw [List.length_take] at this; omega
  have noA : ∀ b : Addr, b ∉ (cxS P w K mg base N qual scope f cda cc A outer s H).ex := fun b z => absurd (show b ∈ ([] : List Addr) from z) (by simp)
  have kin := e0.mod.kin
  have cbase : base.get? cc = some o := kin _ _ hcell
  have cs : s.heap.get? cc = some o ∧ H cc = none := e0.bs cc o cbase
  have one : ∀ y c, List.lookup y [(("__class__" : Str), cc)] = some c → y = ("__class__" : Str) ∧ c = cc := fun y c h => by
    rw [List.lookup_cons] at h
    cases q : y == ("__class__" : Str) with
    | true =>
      rw [q] at h
      exact ⟨beq_iff_eq.mp q, (Option.some.inj h).symm⟩
    | false =>
      rw [q] at h
      cases h
  refine ⟨⟨e0.mod, S.kind, rfl, rfl, Nat.le_refl _, fun y z c h1 h2 => ?_, fun y hy => ?_, fun y c hf h => ?_, fun _ => hd, Around.frames_deeper e0.frames, .inr ⟨rfl, rfl⟩, fun b z => absurd z (noA b), e0.bs, e0.bsz, fun b _ _ => noA b, fun b z => absurd z (noA b), e0.funs, e0.frf⟩,
    rfl, e0.bare, Un.kept hk, ⟨_, ns, fun i y v h1 h2 h3 => ?_⟩, fun y c h => ?_, e0.hok.fresh (Nat.le_refl _), fun y c h => ?_, fun p hp => absurd (show p ∈ ([] : List (Addr × Obj)) from hp) (by simp), e0.hok.kept hk, ?_⟩
  · rw [(one y c h1).1, (one z c h2).1]
  · have hy : scope.names.lookup y = some .cell ∨ scope.names.lookup y = some .free := hy
    rcases hy with hy | hy
    · exact absurd rfl (S.noCell _ (PySem.mem_of_lookup hy))
    · have e := S.free _ (PySem.mem_of_lookup hy) rfl
      have e' : y = ("__class__" : Str) := e
      refine ⟨cc, ?_⟩
      show List.lookup y [(("__class__" : Str), cc)] = some cc
      rw [e']
      rfl
  · have e := (one y c h).1
    subst e
    exact absurd (show (!(("__class__" : Str) == ("__class__" : Str))) = true from hf) (by decide)
  · have hi : i < vs.length := by
      unfold L2.start at h2
      by_cases hi : i < vs.length
      · exact hi
      · rw [List.getElem?_append_right (by simpa using hi)] at h2
        rw [List.getElem?_replicate] at h2
        split at h2 <;> cases h2
    have ha : vs[i]? = some v := by
      unfold L2.start at h2
      rw [List.getElem?_append_left (by simpa using hi), List.getElem?_map] at h2
      cases e : vs[i]? with
      | none => rw [e] at h2; cases h2
      | some a => rw [e] at h2; cases h2; rfl
    obtain ⟨u, hu, rv⟩ := r.get ha
    have hp : ps[i]? = some y := by
      rw [← S.pre, List.getElem?_take_of_lt (by omega)]; exact h1
    have ndP : ps.Nodup := by rw [← S.pre]; exact S.nd.sublist (List.take_sublist _ _)
    exact ⟨u, rv, .inl ⟨S.par y (List.mem_of_getElem? hp), look_zip ndP hp hu⟩⟩
  · refine ⟨_, o, hk _ _ ?_, hcd⟩
    rw [(one y c h).2]
    exact cs.1
  · rw [(one y c h).2]
    exact cs.2
  · unfold L2.start
    show _ = N.length
    rw [List.length_append, List.length_map, List.length_replicate]
    omega
end

/-! ### blocks within the def's own code -/
structure PsA (X : Cx) (c : Code) (st : List Stmt) (t : TS) : Prop where
  run : ∀ (pins : List (Addr × Obj)) (s : Shared) (σ : L2.St) (H : Hp) (D : Ends), Inv X pins σ H s → t D σ H → _root_.PySem.wpAt (model X.prog X.w) X.A c (execs st X.env) (SP X pins D) X.xe s
section
variable {X : Cx} {c : Code} {st : Stmt} {rest : List Stmt} {t u : TS}
theorem psA_of (h : PSs X rest t) : PsA X c rest t := ⟨fun pins s σ H D I q => wpAt_of_wpAny (h.run pins s σ H D I q)⟩
theorem psA_cons (h1 : PS X st t) (h2 : PsA X c rest u) : PsA X c (st :: rest) (tSeq t u) := by
  refine ⟨fun pins s σ H D I h => ?_⟩
  refine PySem.ks_wpAt_execs_cons (PySem.wpAt_mono (wpAt_of_wpAny (h1.run pins s σ H { D with nx := u D } I h)) (fun f s1 q => ?_) fun _ _ x => x)
  cases f with
  | next =>
    obtain ⟨σ', H', I', q⟩ := q
    exact h2.run pins s1 σ' H' D I' q
  | brk => exact q
  | cont => exact q
  | ret v => exact q
end
/-- super().m(e, ..) as a statement: self stands in slot 0 -/
def tSup (C : Addr) (sp : Sp) (ta : TA) : TS := fun D σ H => ∃ x dx fs, σ[0]? = some (some (.ref x)) ∧ H x = some (.ins C dx fs) ∧ ta σ H fun vs H2 => sp (.ref x :: vs) H2 (fun _ H3 => D.nx σ H3) E0
/-- what the written part says of such a call -/
structure SupF (P : Program) (K : PySem.W.Frag) (mg : Str → Option Value) (env : Env) (f cda cc C D : Addr) (m sf : Str) (f2 : Addr) (fd : FuncData) : Prop where
  fn : ∃ oc od osl, K.lookup f = some ⟨oc, od, .func fd, osl⟩
  par : ∃ ar : Arg, (fd.params.posonlyargs ++ fd.params.args).head? = some ar ∧ ar.arg = sf
  code : ∃ ccl cdd vs ccs tf, K.lookup cda = some ⟨ccl, cdd, .fields vs, ccs⟩ ∧ vs[2]? = some (.str P.main.file tf)
  cell : ∃ cl cld csl, K.lookup cc = some ⟨cl, cld, .cell (some (.ref D)), csl⟩
  cls : ∃ cd, PySem.W.clsIn K C = some cd
  clsD : ∃ cd, PySem.W.clsIn K D = some cd
  sub : PySem.W.mroIn K C (.ref D) = some true
  glob : mg "super" = none
  opq : PySem.W.nsIn K cStatics "thirdparty.any" = some none
  find : PySem.W.ks_superIn K C D m = some (some (.ref f2))
  fi : PySem.W.fnIn K f2 = true
  ty : PySem.W.typeIn K (.ref f2) = some (.type "function")
  top : (P.main.scope.names.lookup ("super" : Str)).isSome = false
  eF : env.func = some f
  eC : env.code = .ref cda
  eL : env.cells.lookup ("__class__" : Str) = some cc
  kS : env.kindOf "super" = some .globalImplicit
  kC : env.kindOf "__class__" = some .free
  kSelf : env.kindOf sf = some .local
  nm : (m == ("__class__" : Str)) = false
theorem psA_super {X : Cx} {f cda cc C D f2 : Addr} {m sf : Str} {fd fd2 : FuncData} {ps : List Str} {sp : Sp} {n : Nat} {e : Expr} {es : List Expr} {ta : TA} {u : TS} {p0 p1 apos pos pos2 : Pos} {body rest : List Stmt} {pl : Sem Bool}
    (T : SupF X.prog X.K X.mg X.env f cda cc C D m sf f2 fd) (hN : X.N[0]? = some sf) (F : FnOk X.prog X.w X.K X.mg X.base CX0 n f2 fd2 ps sp) (hr : Room n X.A) (hb : Binds X.K fd2 ps []) (ha : PA X (e :: es) ta) (h2 : PsA X (.func body X.env) rest u)
    (hcall : eval (.Call (.Attribute (.Call (.Name "super" p0) [] [] p1) m apos) (e :: es) [] pos) X.env = (do
      let ov ← attributeBase (.Call (.Name "super" p0) [] [] p1) m X.env (eval (.Call (.Name "super" p0) [] [] p1) X.env)
      standAt apos.atName
      let (f, first) ← holding [ov] (getMethod ov m pl)
      callWith pos f first (backTo pos (starEach (e :: es) X.env)) []) := by rfl)
    (hst : starEach (e :: es) X.env = (false, eval e X.env) :: starEach es X.env := by rfl) (hpl : (backTo pos (starEach es X.env)).any (·.1) = false := by rfl)
    (hi : interactive X.env = false := by rfl) (hs : swapsWith (.Call (.Attribute (.Call (.Name "super" p0) [] [] p1) m apos) (e :: es) [] pos) none pos2.line X.env = pure false := by rfl) :
    PsA X (.func body X.env) (.Expr (.Call (.Attribute (.Call (.Name "super" p0) [] [] p1) m apos) (e :: es) [] pos) pos2 :: rest) (tSeq (tSup C sp ta) u) := by
  refine ⟨fun pins s σ H Dn I h => ?_⟩
  obtain ⟨x, dx, fs, h0, hx, hta⟩ := h
  refine PySem.ks_wpAt_execs_cons (PySem.ks_wpAt_Expr_any ?_ hi hs)
  refine PySem.ks_wpAt_MethodCall (pl := pl) ?_ hcall
  obtain ⟨oc, od, osl, hf⟩ := T.fn
  obtain ⟨ar, har, hself⟩ := T.par
  obtain ⟨ccl, cdd, vs, ccs, tf, hcode, hvs⟩ := T.code
  obtain ⟨cl, cld, csl, hcell⟩ := T.cell
  obtain ⟨cdC, hC⟩ := T.cls
  obtain ⟨cdD, hD⟩ := T.clsD
  have KX := I.kIn
  obtain ⟨mA, J, _⟩ := ins_get I.hok hx
  obtain ⟨odx, J, _⟩ := J.look
  obtain ⟨ml, hn, hlk⟩ := I.loc
  have hloc : ml sf = some (.ref x) := by
    obtain ⟨u, ru, lk⟩ := hlk 0 sf (.ref x) hN h0 (Or.inl T.kSelf)
    cases ru
    rcases lk with ⟨_, z⟩ | ⟨z, _⟩
    · exact z
    · rw [T.kSelf] at z
      rcases z with z | z <;> cases z
  obtain ⟨oD, hD1, hD2⟩ : ∃ oD, s.heap.get? D = some oD ∧ oD.data = .cls cdD := by
    unfold PySem.W.clsIn at hD
    split at hD
    · rename_i c d cd' sl ho
      cases hD
      exact ⟨_, KX _ _ ho, rfl⟩
    · cases hD
  obtain ⟨hh, g, d, t, os⟩ := s
  refine PySem.ks_wpAt_super_base T.kS T.kC T.nm T.eF (KX _ _ hf) rfl har T.eC (KX _ _ hcode) rfl hvs (by simp) T.top ?_
  obtain ⟨mb, hb1, hb2⟩ := I.mod.blt
  refine PySem.W.ks_loadName_global I.ok.kind T.kS (Calls.loadGlobal_builtin (v := .type "super") (by rw [I.ok.glob]; exact I.mod.glob.keeps I.bk) T.glob (by rw [I.ok.blt]; exact hb1.keeps I.bk) ((hb2 "super" (by decide)).trans (by decide +kernel)) ⟨rfl, ?_⟩)
  refine wpAny_loadName_free I.ok.kind T.kC T.eL ⟨_, KX _ _ hcell, rfl⟩ ?_
  rw [hself]
  refine wpAny_loadName_local I.ok.kind T.kSelf hn hloc ?_
  refine PySem.ks_wpAny_isType_cls hD1 hD2 ⟨rfl, ?_⟩
  refine PySem.ks_wpAny_call_super hD1 hD2 J.at_ J.cls (fun c e => by cases e) (PySem.W.looks_mroIn KX T.sub) (fun h' e k => ?_)
  -- the super object stands
  have I1 : Inv X pins σ H ⟨h', g, d, t, os⟩ := I.kept (t' := t) k
  have KX1 := I1.kIn
  have J1 : h'.get? x = some (PySem.W.instObj C dx) := k _ _ J.at_
  have hm := T.find
  unfold PySem.W.ks_superIn at hm
  rw [hC] at hm
  obtain ⟨of, hof, hofc⟩ : ∃ of, h'.get? f2 = some of ∧ of.cls = .type "function" := by
    have ht' : (X.K.lookup f2).map (·.cls) = some (.type "function") := T.ty
    cases z : X.K.lookup f2 with
    | none => rw [z] at ht'; cases ht'
    | some of => rw [z] at ht'; exact ⟨of, KX1 _ _ z, Option.some.inj ht'⟩
  have hxC : x ≠ C := by
    intro z
    rw [z] at J1
    unfold PySem.W.clsIn at hC
    split at hC
    · rename_i c d' cd' sl ho
      have e1 := KX1 _ _ ho
      have e2 : h'.get? C = some (PySem.W.instObj C dx) := J1
      rw [e2] at e1
      cases e1
    · cases hC
  refine PySem.ks_wpAny_getMethod_super e (PySem.W.looks_opaque KX1 T.opq) (l₀ := cdC.mro) ?_ rfl KX1 hm hof hofc hxC T.nm ?_
  · exact fun A Q E s k q => wpAny_bind ((PySem.W.looks_clsIn KX1 hC) A _ E s k (wpAny_pure q))
  have I2 : Inv X ((h'.objs.size, PySem.W.methodObj (.ref f2) (.ref x)) :: pins) σ H ⟨h'.push (PySem.W.methodObj (.ref f2) (.ref x)), g, d, t + 1, os⟩ := ClX.met_new (g := f2) (C := x) I1
  refine ClX.callwith_cm I2 (ClX.base_none I1 (Nat.le_refl _)) T.fi (thn (ha.run pos _ _ σ H _ I2 hta) fun us s3 ⟨vs, H2, I3, rv, q2⟩ => ⟨⟨ClX.pin_at I3, I3.kIn⟩, ?_⟩) hst hpl
  have raw := F.raw hb .nil
  refine thn (ClX.run_cm (Q := fun _ H3 => u Dn σ H3) raw hr pass0 I3 rv (by show sp ((V.ref x :: vs) ++ []) H2 _ E0; rw [List.append_nil]; exact q2)) fun v s4 z => ?_
  obtain ⟨z, H3, I4, rz, q4⟩ := z
  exact h2.run pins s4 σ H3 Dn I4 q4

/-- THE RULE for such a def -/
theorem fnS_of {P : Program} {w : World} {K : PySem.W.Frag} {mg : Str → Option Value} {base : Heap} {k : Nat} {f cc D : Addr} {x qual file : Str} {st : Stmt} {dvs : List V} {kws : List (Str × V)} {fd : FuncData} {N ps : List Str} {sp : Sp}
    (F : FunS K x qual st dvs kws f cc D file fd) (S : ScopeS N ps (defScope st)) (len : ∀ vs H Q E, sp vs H Q E → vs.length = ps.length)
    (hbody : ∀ (cda : Addr) (A : Around) (outer : List Env) (s : Shared) (H : Hp) (vs : List V) (Q : VK) (E : XK), (∃ ccl cdd vs ccs tf, K.lookup cda = some ⟨ccl, cdd, .fields vs, ccs⟩ ∧ vs[2]? = some (.str file tf)) →
      (∃ oc od dV kV doc pm an ct osl, fd = PySem.W.fnX x qual (defArgs st) (defBody st) (defScope st) [("__class__", cc)] dV kV doc pm an (.ref cda) ct ∧ K.lookup f = some ⟨oc, od, .func fd, osl⟩) →
      Room k (A.deeper (envS qual (defScope st) s.heap.objs.size f cda cc)) → sp vs H Q E →
      ∃ t, PsA (cxS P w K mg base N qual (defScope st) f cda cc A outer s H) (.func (defBody st) (envS qual (defScope st) s.heap.objs.size f cda cc)) (defBody st) t ∧ t { nx := fun _ H' => Q .non H', rt := Q } (L2.start N vs) H) :
    FnOk P w K mg base CX0 (k + 1) f fd ps sp := by
  obtain ⟨oc, od, dV, kV, doc, pm, an, cda, ct, osl, e, lk, hcd, _, _, hcode⟩ := F.ex
  obtain ⟨cl, cld, csl, hcell⟩ := F.cell
  refine ⟨len, fun A outer s H args us vs Q E hr e0 hb r hsp => ?_⟩
  have hl := len _ _ _ _ hsp
  have KX : K.In s.heap := e0.mod.kin.keeps fun b o e => (e0.bs b o e).1
  have lim : s.heap.NoLimit := e0.mod.nolimit.keeps fun b o e => (e0.bs b o e).1
  obtain ⟨t, ht, hq⟩ := hbody cda A outer s H vs Q E hcode ⟨oc, od, dV, kV, doc, pm, an, ct, osl, e, lk⟩ (hr.deeper _) hsp
  subst e
  refine PySem.ks_codeAny_call_defAt (body := defBody st) (binds := ps.zip us) hr.depth (KX _ _ lk) rfl lim (PySem.W.codeRec_of KX hcd) rfl hb S.noCell (fun y hy => S.par _ ?_) (fun h₀ hn hk => ?_) S.co S.gen S.kind
  · obtain ⟨a, b⟩ := y
    exact (List.of_mem_zip hy).1
  · have I : Inv (cxS P w K mg base N qual (defScope st) f cda cc A outer s H) [] (L2.start N vs) H { s with heap := h₀, toks := s.toks + (ps.zip us).length } :=
      invS_start (file := file) (fd := PySem.W.fnX x qual (defArgs st) (defBody st) (defScope st) [("__class__", cc)] dV kV doc pm an (.ref cda) ct) S hr.hd e0 hl r hcell rfl hn hk
    refine PySem.wpAt_mono (ht.run [] _ _ H _ I hq) (fun fl s' hs => ?_) fun e s' hs => False.elim hs
    have fin : ∀ {σ' : L2.St} {H' : Hp} {v : V} {u : Value}, Inv (cxS P w K mg base N qual (defScope st) f cda cc A outer s H) [] σ' H' s' → RelV v u → Q v H' → CE outer P w H s Q u s' :=
      fun {σ' H' v u} J rv q => ⟨v, H', J.os, J.bare, J.base, J.hok, rv, q⟩
    cases fl with
    | ret u =>
      obtain ⟨v, σ', H', J, rv, q⟩ := hs
      exact fin J rv q
    | next =>
      obtain ⟨σ', H', J, q⟩ := hs
      exact fin (v := V.non) (u := Value.none) J rfl q
    | brk =>
      obtain ⟨_, _, _, q⟩ := hs
      exact False.elim q
    | cont =>
      obtain ⟨_, _, _, q⟩ := hs
      exact False.elim q
end EC
end
section
set_option Elab.async false
set_option linter.all false
set_option maxRecDepth 100000
set_option maxHeartbeats 2000000
/-! R3: for .. in a generator def's body. -/
namespace EC
open PySem PySem.Spec PyProof.Rows L2 GenW

/-- a for whose body hands out items -/
def tGFor (wi : TI) (g : TG) (tb : TGn) : TGn := fun D ys σ H => wi σ H fun J H1 => ∃ W : Nat → Nat → List V → L2.St → Hp → Prop, (∃ m, W 0 m ys σ H1) ∧ ∀ i m ys σ H, W i m ys σ H →
  (J.stop i H ∧ D.nx ys σ H) ∨ (J.go i H ∧ ∃ N : List V → L2.St → Hp → Prop, (∀ ys' σ' H', N ys' σ' H' → ∃ m', m' < m ∧ W (i + 1) m' ys' σ' H') ∧
    ∀ x H', J.yld i H x H' → g x σ H' fun σ2 H2 => tb { D with nx := N, ct := N, bk := D.nx } ys σ2 H2)

section
variable {X : Cx}
theorem gs_for {iter tg : Expr} {body : List Stmt} {wi : TI} {g : TG} {tb : TGn} {pos : Pos} (hp : PassesOwn (model X.prog X.w) X.A X.env X.xe) (hc : X.calm = true) (hi : PI X tg iter wi) (hg : PG X tg g) (hb : GSs X body tb)
    (hs : ∀ x, foldedSetIterable iter X.env x = pure x := by intro _; rfl) : GS X (.For tg iter body [] pos) (tGFor wi g tb) := by
  refine ⟨fun A S ip R n ys s₀ c fs K Jx gd lv s σ H D gc hn k hI ht => ?_⟩
  obtain ⟨acc0, c0, r0, I0⟩ := hI
  rw [exec_For]
  refine seg_bind_wrap (wpAny_standAt ?_)
  refine seg_bind_wrap ?_
  rw [gc.over]
  refine wpAny_mono (hi.run _ s σ H _ I0 ht) (fun v s1 h1 => ?_) fun x s' hx => k.exc n s₀ x s' hx
  refine seg_bind_wrap (wpAny_of_eq (hs v) ?_)
  refine seg_bind_wrap (wpAny_standAt ?_)
  refine seg_bind_wrap (wpAny_holding ?_)
  rw [gc.over]
  refine wpAny_mono h1 (fun itv s2 h2 => ?_) fun x s' hx => k.exc n s₀ x s' hx
  obtain ⟨it, fp, tn, J, H2, e, I2, T, st2, f2, W, ⟨m0, w0⟩, turn⟩ := h2
  subst e
  have fpip : ∀ b ∈ fp, H2 b = none ∧ b ≠ X.env.locals ∧ b ∉ X.fs ∧ (b ∈ X.ex ∨ X.s_0.heap.objs.size ≤ b) ∧ (∀ x c, X.env.cells.lookup x = some c → c ≠ b) ∧ (∀ p ∈ X.pn, p.1 ≠ b) ∧ (∀ p ∈ ip, p.1 ≠ b) ∧ b ≠ S := fun b hb => by
    obtain ⟨a1, a2, a3, a4, a5, a6⟩ := f2 b hb
    exact ⟨a1, a2, a3, a4, a5, fun p hp => a6 p (List.mem_append_left _ hp), fun p hp => a6 p (List.mem_append_right _ (List.mem_cons_of_mem _ hp)), fun z => a6 (S, lstObj acc0 c0) (List.mem_append_right _ List.mem_cons_self) z.symm⟩
  have stat : ∀ {H' : Hp} {acc : Array Value} {cc : Nat}, (∀ b ∈ fp, H' b = none) → ∀ b ∈ fp, FpOk X ((S, lstObj acc cc) :: ip) H' b := fun hn b hb => by
    obtain ⟨a1, a2, a3, a4, a5, a6, a7, a8⟩ := fpip b hb
    refine ⟨hn b hb, a2, a3, a4, a5, fun p hp => ?_⟩
    rcases List.mem_append.mp hp with z | z
    · exact a6 p z
    · rcases List.mem_cons.mp z with z | z
      · rw [z]; exact fun q => a8 q.symm
      · exact a7 p z
  refine seg_call fun p => ?_
  have gl := fun (kk : Result → Sem PySem.Fin) => gc_loop (k := kk) (c' := .forLoop tg (.ref it) body [] X.env) (l := lv []) (kp := []) (p := p) gc rfl rfl
  have ee : ∀ (n : Nat) (s₀ : Shared) (x : Value) (s' : Shared), X.xe x s' → Seg (model X.prog X.w) A R (GY X S) n s₀ (.forLoop tg (.ref it) body [] X.env)
      ((do noteFrame x X.env; theTreesLotGoes x : Sem Unit).bind fun _ => .raise x)
      (.ret (fun r => ((match r with | .ok f => (.pure f : Sem Flow) | .error e => .raise e).onRaise (cameBack X.env)).wrap K Jx gd lv) none (gd false) (lv []) c p [] :: fs) s' := fun n s₀ x s' hx => by
    rw [Sem.bind_eq_wrap]
    refine seg_wrap ?_
    rw [(gl _).over]
    refine wpAny_bind (wpAny_mono (hp x s' hx) (fun _ s'' hcb => wpAny_theTreesLotGoes ?_) fun y s'' hcb => ?_)
    · exact seg_leaf (.error x) (seg_cameBack gc k hcb)
    · exact seg_leaf (.error y) (seg_cameBack gc k hcb)
  have loop : ∀ (m i n : Nat) (ys : List V) (s₀ s : Shared) (σ : L2.St) (H : Hp), n + ys.length = sizeLine → W i m ys σ H → tn i s.heap → (∀ b ∈ fp, H b = none) → GI X S ip ys σ H s →
      Seg (model X.prog X.w) A R (GY X S) n s₀ (.forLoop tg (.ref it) body [] X.env) ((model X.prog X.w).den (.forLoop tg (.ref it) body [] X.env))
        (.ret (fun r => ((match r with | .ok f => (.pure f : Sem Flow) | .error e => .raise e).onRaise (cameBack X.env)).wrap K Jx gd lv) none (gd false) (lv []) c p [] :: fs) s := by
    intro m
    induction m using Nat.strongRecOn with
    | ind m ih =>
      intro i n ys s₀ s σ H hn w st fr hI
      obtain ⟨acc, cc, r, I⟩ := hI
      show Seg _ A R (GY X S) n s₀ _ ((forTurn tg (.ref it) body [] X.env).onRaise (fun x => do noteFrame x X.env; theTreesLotGoes x)) _ s
      rw [Sem.onRaise_eq_wrap]
      unfold forTurn
      refine seg_bind_wrap (wpAny_standAt ?_)
      refine seg_bind_wrap (wpAny_onRaise ?_)
      rw [(gl _).over]
      rcases turn i m ys σ H w with ⟨stop, qn⟩ | ⟨go, N, hN, step⟩
      · refine wpAny_mono (T.done X rfl rfl rfl hc i _ s σ H (fun _ _ => False) I (stat fr) st stop) (fun r4 s4 ⟨hr, I4⟩ => ?_) fun x s' hx => False.elim hx
        subst hr
        show Seg _ A R (GY X S) n s₀ _ (Sem.wrap _ _ _ _ (again (.block [] X.env))) _ s4
        refine seg_again rfl ?_
        show Seg _ A R (GY X S) n s₀ _ (((execs [] X.env).onRaise (fun x => do noteFrame x X.env; theTreesLotGoes x)) >>= fun f => pure (.done f)) _ s4
        exact seg_leaf (.ok .next) (k.ok n ys s₀ s4 .next hn ⟨σ, H, ⟨acc, cc, r, I4⟩, qn⟩)
      · refine wpAny_mono (T.item X rfl rfl rfl hc i _ s σ H (fun _ _ => False) I (stat fr) st go) (fun r4 s4 ⟨u, hr, h4⟩ => ?_) fun x s' hx => False.elim hx
        subst hr
        dsimp only
        refine seg_bind_wrap ?_
        rw [(gl _).over]
        refine wpAny_mono h4 (fun _ s5 h5 => ?_) fun x s' hx => False.elim hx
        obtain ⟨x, H5, I5, r5, y5, st5, fr5⟩ := h5
        have I5' := I5.pinned (stat fr5) (T.obj _ _ st5)
        refine seg_bind_wrap ?_
        rw [(gl _).over]
        refine wpAny_mono (hg.run _ s5 σ H5 x u _ I5' r5 (step x H5 y5)) (fun _ s6 h6 => ?_) fun x s' hx => ee n s₀ x s' hx
        obtain ⟨σ6, H6, I6, q6⟩ := h6
        rw [Sem.bind_eq_wrap', Sem.wrap_wrap]
        rw [Sem.wrap_congr (execs body X.env) _ _ (K' := (fun f => match f with
            | .next | .cont => .pure (Fin.again (.forLoop tg (.ref it) body [] X.env))
            | .brk => .pure (Fin.done .next)
            | .ret v => .pure (Fin.done (.ret v)) : Flow → Sem PySem.Fin)) (H' := (fun e => (do noteFrame e X.env; theTreesLotGoes e : Sem Unit).bind fun _ => .raise e : Value → Sem PySem.Fin))
          (fun f => by cases f <;> rfl) (fun e => by rfl)]
        have gl2 : GC X S (ip ++ pinsAt fp s5.heap) A (.forLoop tg (.ref it) body [] X.env) (.ret (fun r => ((match r with | .ok f => (.pure f : Sem Flow) | .error e => .raise e).onRaise (cameBack X.env)).wrap K Jx gd lv) none (gd false) (lv []) c p [] :: fs) id := by
          refine { gl _ with ip := fun q hq => ?_ }
          rcases List.mem_append.mp hq with z | z
          · exact gc.ip q z
          · obtain ⟨z1, _⟩ := of_pinsAt z
            exact (fpip q.1 z1).2.2.2.2.2.2.2
        refine hb.run A S (ip ++ pinsAt fp s5.heap) R n ys s₀ _ _ _ _ id id s6 σ6 H6 { D with nx := N, ct := N, bk := D.nx } gl2 hn ⟨fun n' ys' s₀' s3 f hn' hs => ?_, fun n' s₀' x s3 hx => ee n' s₀' x s3 hx⟩ ⟨acc, cc, r, I6⟩ q6
        have un : ∀ {zs : List V} {σ7 : L2.St} {H7 : Hp}, GI X S (ip ++ pinsAt fp s5.heap) zs σ7 H7 s3 → GI X S ip zs σ7 H7 s3 := fun {zs σ7 H7} hI7 => by
          obtain ⟨acc7, c7, r7, I7⟩ := hI7
          have I7' : Inv X (((S, lstObj acc7 c7) :: ip) ++ pinsAt fp s5.heap) σ7 H7 s3 := I7
          exact ⟨acc7, c7, r7, I7'.unpinned⟩
        have again' : ∀ {σ7 : L2.St} {H7 : Hp}, GI X S (ip ++ pinsAt fp s5.heap) ys' σ7 H7 s3 → N ys' σ7 H7 →
            Seg (model X.prog X.w) A R (GY X S) n' s₀' (.forLoop tg (.ref it) body [] X.env) (.pure (.again (.forLoop tg (.ref it) body [] X.env)))
              (.ret (fun r => ((match r with | .ok f => (.pure f : Sem Flow) | .error e => .raise e).onRaise (cameBack X.env)).wrap K Jx gd lv) none (gd false) (lv []) c p [] :: fs) s3 := fun {σ7 H7} I7 n7 => by
          obtain ⟨m', hm, w7⟩ := hN ys' σ7 H7 n7
          obtain ⟨acc7, c7, r7, J7⟩ := id I7
          have pin7 : ∀ b ∈ fp, ∀ o, s5.heap.get? b = some o → s3.heap.get? b = some o ∧ H7 b = none := fun b hb o e => by
            obtain ⟨p1, p2, _⟩ := J7.pin (b, o) (List.mem_append_right _ (List.mem_cons_of_mem _ (List.mem_append_right _ (mem_pinsAt hb e))))
            exact ⟨p1, p2⟩
          refine seg_again rfl (ih m' hm (i + 1) n' ys' s₀' s3 σ7 H7 hn' w7 (T.keep _ _ _ st5 fun b hb o e => (pin7 b hb o e).1) (fun b hb => ?_) (un I7))
          obtain ⟨o, e, d⟩ := T.obj _ _ st5 b hb
          exact (pin7 b hb o e).2
        cases f with
        | next =>
          obtain ⟨σ7, H7, I7, n7⟩ := hs
          exact again' I7 n7
        | cont =>
          obtain ⟨σ7, H7, I7, n7⟩ := hs
          exact again' I7 n7
        | brk =>
          obtain ⟨σ7, H7, I7, n7⟩ := hs
          exact seg_leaf (.ok .next) (k.ok n' ys' s₀' s3 .next hn' ⟨σ7, H7, un I7, n7⟩)
        | ret v =>
          obtain ⟨x7, σ7, H7, I7, r7, q7⟩ := hs
          exact seg_leaf (.ok (.ret v)) (k.ok n' ys' s₀' s3 (.ret v) hn' ⟨x7, σ7, H7, un I7, r7, q7⟩)
  exact loop m0 0 n ys s₀ s2 σ H2 hn w0 st2 (fun b hb => (f2 b hb).1) ⟨acc0, c0, r0, I2⟩
end
end EC
end
section
set_option Elab.async false
set_option linter.all false
set_option maxRecDepth 100000
set_option maxHeartbeats 2000000
/-! R4a: t[::-1] of a tuple. -/
namespace EC
open PySem PySem.Spec PyProof.Rows L2 HT

section
variable {prog : Program} {w : World} {A : Around} {E : Value → Shared → Prop} {s : Shared}
theorem adjust_rev (n : Nat) : Builtin.Slice.sliceAdjust none none (-1) (n : Int) = ((n : Int) - 1, -1) := rfl
theorem places_rev (n : Nat) : Builtin.Slice.slicePlaces ((n : Int) - 1) (-1) (-1) = n := by
  unfold Builtin.Slice.slicePlaces
  have h1 : ¬ ((-1 : Int) > 0) := by omega
  have h2 : (- -1 : Int) = 1 := by omega
  simp only [h1, if_false, h2, Int.ediv_one]
  split <;> omega
theorem sliceApplied_rev {sl : Addr} {vl vu vs : Value} {n : Nat} {Q : Int × Int × Nat → Shared → Prop} (hs : s.heap.IsSliceOf sl vl vu vs) (pl : IsPart vl none) (pu : IsPart vu none) (ps : IsPart vs (some (-1)))
    (h : Q ((n : Int) - 1, -1, n) s) : wpAny (model prog w) A (Builtin.Slice.sliceApplied (.ref sl) (pure (n : Int))) Q E s := by
  obtain ⟨os, hos, hcs, hds⟩ := id hs
  unfold Builtin.Slice.sliceApplied Builtin.Slice.sliceFields
  refine wpAny_bind (wpAny_bind (wpAny_field hos hds (x := vl) rfl (wpAny_bind (wpAny_field hos hds (x := vu) rfl (wpAny_bind (wpAny_field hos hds (x := vs) rfl (wpAny_pure ?_)))))))
  refine wpAny_bind (slicePart_ ps ?_)
  show wpAny _ _ (if ((-1 : Int) == 0) = true then _ else _) _ _ s
  rw [if_neg (by decide)]
  refine wpAny_bind (slicePart_ pl (wpAny_bind (slicePart_ pu (wpAny_bind (wpAny_pure ?_)))))
  show wpAny _ _ (match Builtin.Slice.sliceAdjust none none (-1) (n : Int) with | (lo, hi) => pure (lo, (-1 : Int), Builtin.Slice.slicePlaces lo hi (-1))) _ _ s
  rw [adjust_rev]
  show wpAny _ _ (pure ((n : Int) - 1, (-1 : Int), Builtin.Slice.slicePlaces ((n : Int) - 1) (-1) (-1))) _ _ s
  rw [places_rev]
  exact wpAny_pure h
theorem pick_rev (xs : Array Value) : ((List.range xs.size).filterMap fun (m : Nat) => xs[(((xs.size : Int) - 1) + (m : Int) * (-1)).toNat]?).toArray = xs.toList.reverse.toArray := by
  have e : ((List.range xs.size).filterMap fun (m : Nat) => xs[(((xs.size : Int) - 1) + (m : Int) * (-1)).toNat]?) = (((List.range xs.size).map fun k => xs.size - 1 - k).filterMap (xs[·]?)) := by
    rw [List.filterMap_map]
    congr 1
    funext m
    show xs[(((xs.size : Int) - 1) + (m : Int) * (-1)).toNat]? = xs[xs.size - 1 - m]?
    by_cases hm : m < xs.size
    · congr 1
      omega
    · by_cases h0 : xs.size = 0
      · rw [Array.getElem?_eq_none (by omega), Array.getElem?_eq_none (by omega)]
      · congr 1
        omega
  rw [e, PySem.W.krv_range, List.filterMap_reverse, PySem.W.krv_all]
theorem getItem_tuple_rev {t sl : Addr} {items : Array Value} {vl vu vs : Value} {Q : Value → Shared → Prop} (ht : IsTup s.heap t items) (hs : s.heap.IsSliceOf sl vl vu vs) (pl : IsPart vl none) (pu : IsPart vu none) (ps : IsPart vs (some (-1)))
    (h : Q (.ref s.heap.objs.size) { s with heap := s.heap.push { cls := .type "tuple", data := .seq items.toList.reverse.toArray } })
    (hsz : items.size ≤ sizeLine) : wpAny (model prog w) A (getItem (.ref t) (.ref sl)) Q E s := by
  have htake : sizeOk (.seq items.toList.reverse.toArray) := by
    show items.toList.reverse.toArray.size ≤ sizeLine
    rw [List.size_toArray, List.length_reverse, Array.length_toList]
    omega
  obtain ⟨os, hos, hcs, hds⟩ := id hs
  have hTs : s.TypeIs (.ref sl) "slice" := ⟨os, hos, hcs⟩
  unfold getItem
  try with_reducible refine wpAny_holding ?_
  first | refine wpAny_bind (wpAny_pure ?_) | skip
  refine wpAny_bind (wpAny_sequenceKey ht.typeIs (by decide) ?_)
  refine wpAny_bind (wpAny_callSpecial?_slot (name := Str.ofString "__getitem__") ht.typeIs PyProof.Rows.slot_tuple_getitem
    (wpAny_call_entry PyProof.Rows.slot_tuple_getitem ht.typeIs entry_tuple_getitem ?_ (args_tuple_getitem _ _)))
  show wpAny _ _ (Builtin.Tuple.tupleItemsOf (.ref t) >>= _) _ _ s
  refine wpAny_bind (tupleItemsOf_ ht ?_)
  refine wpAny_bind (wpAny_typeOf hTs ?_)
  rw [if_pos (by decide)]
  refine wpAny_bind (sliceApplied_rev hs pl pu ps ?_)
  have hno : ¬ (((((items.size : Nat) : Int) - 1) == 0 && (-1 : Int) == 1 && items.size == items.size) = true) := by
    intro q
    rw [Bool.and_eq_true, Bool.and_eq_true] at q
    exact absurd q.1.2 (by decide)
  show wpAny _ _ (if ((((items.size : Nat) : Int) - 1) == 0 && (-1 : Int) == 1 && items.size == items.size) = true then _ else _) _ _ s
  rw [if_neg hno, pick_rev]
  first
    | exact wpAny_bind (m := Builtin.Tuple.tupleExact _) (wpAny_newObj_type (wpAny_pure ⟨_, rfl, wpAny_pure h⟩) htake)
    | exact wpAny_bind (m := Builtin.Tuple.tupleExact _) (wpAny_newObj_type (wpAny_bind (wpAny_pure (wpAny_pure ⟨_, rfl, wpAny_pure h⟩))) htake)
    | exact wpAny_bind (wpAny_bind (m := Builtin.Tuple.tupleExact _) (wpAny_newObj_type (wpAny_pure (wpAny_pure ⟨_, rfl, wpAny_pure h⟩)) htake))
    | exact wpAny_bind (wpAny_bind (m := Builtin.Tuple.tupleExact _) (wpAny_newObj_type (wpAny_pure ⟨_, rfl, wpAny_pure h⟩) htake))
end
variable {X : Cx}
def tRevT (K : PySem.W.Frag) (te : TE) : TE := fun σ H Q => te σ H fun x H1 => ∃ a xs, x = .ref a ∧ SqT K H1 a xs ∧ ∀ p, H1 p = none → Q (.ref p) (upd H1 p (.tup xs.reverse))
theorem pe_revT {e : Expr} {te : TE} {k : Nat} {p1 p2 p3 pos : Pos} (he : PE X e te) : PE X (.Subscript e (.Slice none none (some (.UnaryOp .USub (.Constant (.int 1) k p1) p2)) p3) pos) (tRevT X.K te) := by
  refine ⟨fun pins s σ H Q I h => ?_⟩
  refine Subscript_ (thn (he.run pins s σ H _ I h) fun v s1 ⟨x, H1, I1, r1, q1⟩ => ?_)
  obtain ⟨a, xs, ex, hx, q⟩ := q1
  subst ex
  cases r1
  have hst : PO X (some (.UnaryOp .USub (.Constant (.int 1) k p1) p2)) (tPart (tUn (rU fun i => .int (-i)) (tC (.int 1)))) := po_some (pe_un un_neg pe_int)
  refine wpAny_Slice (thn (po_none.run pins s1 σ H1 (fun o H2 => o = none ∧ H2 = H1) I1 ⟨rfl, rfl⟩) fun vl s2 ⟨l, H2, I2, pl, el, e2⟩ => ?_)
  subst el e2
  refine thn (po_none.run pins s2 σ H2 (fun o H3 => o = none ∧ H3 = H2) I2 ⟨rfl, rfl⟩) fun vu s3 ⟨u, H3, I3, pu, eu, e3⟩ => ?_
  subst eu e3
  refine thn (hst.run pins s3 σ H3 (fun o H4 => o = some (-1) ∧ H4 = H3) I3 ⟨1, rfl, -1, rfl, rfl, rfl⟩) fun vs s4 ⟨o, H4, I4, ps, eo, e4⟩ => ?_
  subst eo e4
  have I5 : Inv X pins σ H4 { s4 with heap := s4.heap.push { cls := .type "slice", data := .fields #[vl, vu, vs] } } := I4.kept (t' := s4.toks) fun b ob q => Heap.get?_push_of_some _ q
  obtain ⟨its, r, ht, hz⟩ := I5.tuple hx
  have hlen := r.length
  show wpAny (model X.prog X.w) X.A (subscriptTail e (.Slice none none (some (.UnaryOp .USub (.Constant (.int 1) k p1) p2)) p3) (.ref a) (.ref s4.heap.objs.size)) (EP X pins σ Q) X.xe { s4 with heap := s4.heap.push { cls := .type "slice", data := .fields #[vl, vu, vs] } }
  refine tail_any (ops := [.ref a, .ref s4.heap.objs.size]) ht.typeIs (PyProof.Rows.slot_tuple_getitem.lookup) ?_ (by with_unfolding_all rfl)
  refine getItem_tuple_rev ht (Heap.IsSliceOf.new _ vl vu vs) pl pu ps ?_ (by rw [List.size_toArray]; omega)
  refine ⟨.ref _, _, I5.laid (t' := s4.toks) (o := .tup xs.reverse) (fun b ob q => Heap.get?_push_of_some _ q) (Nat.le_refl _) ?_, rfl, q _ (I5.hok.fresh (Nat.le_refl _))⟩
  exact ⟨by rw [List.length_reverse]; exact hz, _, r.reverse, IsTup.new _ _⟩
end EC
end
section
set_option Elab.async false
set_option linter.all false
set_option maxRecDepth 100000
set_option maxHeartbeats 2000000
/-! R4b: o[i] and bool(o) of own classes, enumerate over a tuple. -/
namespace EC
open PySem PySem.Spec PyProof.Rows L2

section
variable {X : Cx} {C g : Addr} {n : Nat} {CX : CXT} {fd : FuncData} {ps : List Str} {sp : Sp} {E : XK} {ds : List Value} {dvs : List V}
/-- the callee runs at any around below -/
theorem run_at {A' : Around} {pins : List (Addr × Obj)} {σ : L2.St} {H : Hp} {s : Shared} {Q : VK} {us : List Value} {vs : List V} (F : FnOk X.prog X.w X.K X.mg X.base CX n g fd ps sp) (hr : Room n A') (e0 : Env0 X.prog X.w X.K X.mg X.base A' X.stack s H) (hb : Binds X.K fd ps ds) (hd : Vals dvs ds) (hx : Passes CX X E)
    (I : Inv X pins σ H s) (r : Vals vs us) (h : sp (vs ++ dvs) H Q E) : wpAny (model X.prog X.w) A' (call (.ref g) us) (EP X pins σ Q) X.xe s := by
  have r2 : Vals (vs ++ dvs) (us ++ ds) := r.append hd
  have hl : (us ++ ds).length = ps.length := by rw [← r2.length]; exact F.len _ _ _ _ h
  refine wpAny_call (codeAny_mono (F.run A' X.stack s H ⟨us, []⟩ (us ++ ds) (vs ++ dvs) Q E hr e0 (hb s us I.kIn hl) r2 h) fun r s' hq => ?_)
  cases r with
  | error e => exact hx pins σ H s e s' I hq
  | ok fl =>
    cases fl with
    | ret u => exact I.after hq
    | next => exact False.elim hq
    | brk => exact False.elim hq
    | cont => exact False.elim hq
/-- o[i] by an own __getitem__ -/
def rIxO (C : Addr) (sp : Sp) (E : XK) : R2 := fun x y H Q => ∃ a dx fs, x = .ref a ∧ H a = some (.ins C dx fs) ∧ sp [x, y] H Q E
theorem pe_subO {a b : Expr} {ta tb : TE} {pos : Pos} (m : Meth X.K C "__getitem__" g) (hf : PySem.W.fnIn X.K g = true) (F : FnOk X.prog X.w X.K X.mg X.base CX n g fd ps sp) (hr : Room (n + 1) X.A) (hb : Binds X.K fd ps []) (hx : Passes CX X E)
    (pa : PE X a ta) (pb : PE X b tb) (hs : ∀ (x : Addr) (i : Value), subscripted b true (.ref x) i = runValue (.builtin "lifetime.subscript" ⟨[.ref x, i], []⟩) := by intro _ _; with_unfolding_all rfl) : PE X (.Subscript a b pos) (tOp (rIxO C sp E) ta tb) := by
  refine ⟨fun pins s σ H Q I h => ?_⟩
  refine Subscript_ (binT pa pb I h fun v u s2 x y H2 I2 rx ry q => ?_)
  obtain ⟨a, dx, fs, rfl, ha, q⟩ := q
  cases rx
  obtain ⟨od, J⟩ := ins_at I2 ha
  obtain ⟨m', hF⟩ := I2.fr
  refine PySem.W.sub_K hF I2.ok.mod.kin J m.at_ hf m.fn ?_ (hs _ _)
  exact run_in1 (us := [.ref a, u]) (vs := [.ref a, y]) F hr hb .nil hx I2 (.cons rfl (.cons ry .nil)) q
/-- bool(o) by an own __bool__ -/
theorem bool_new (prog : Program) (w : World) (x : Value) : MeetsIn prog w (Builtin.«bool.__new__» ⟨[.type "bool", x], []⟩)
    (fun A R s => wpAny (model prog w) A.in1 (truthy x) (fun b s1 => R (.ok (.ret (.bool b))) s1) (fun e s1 => R (.error e) s1) s) :=
  .of_wp fun A R s h => by
    have f1 := PySem.F.conv_sub_bool
    unfold Builtin.«bool.__new__»
    dsimp only
    refine wpAny_bind (wpAny_of_eq (a := true) (by first | rfl | kernel_rfl) ?_)
    try dsimp only
    try rw [if_neg (by decide)]
    refine wpAny_bind (wpAny_of_eq f1 ?_)
    try dsimp only
    try rw [if_neg (by decide)]
    refine wpAny_bind (wpAny_of_eq (a := [x]) (by first | rfl | kernel_rfl) ?_)
    dsimp only
    exact wpAny_bind (wpAny_mono h (fun b s1 hq => wpAny_pure ⟨_, rfl, hq⟩) fun _ _ z => z)
def rBoolC (C : Addr) (sp : Sp) (E : XK) : List V → Hp → VK → Prop := fun xs H Q => ∃ a dx fs, xs = [.ref a] ∧ H a = some (.ins C dx fs) ∧ sp [.ref a] H (fun v H' => ∃ k, v = .bl k ∧ Q (.bl k) H') E
theorem call_boolO (m : Meth X.K C "__bool__" g) (F : FnOk X.prog X.w X.K X.mg X.base CX n g fd ps sp) (hr : Room (n + 1 + 1) X.A) (hb : Binds X.K fd ps []) (hx : Passes CX X E) : CallR X (.type "bool") (rBoolC C sp E) := by
  intro pins s σ H xs us Q I r h
  obtain ⟨a, dx, fs, rfl, ha, q⟩ := h
  obtain ⟨u, rfl, rx⟩ := vals1 r
  cases rx
  obtain ⟨od, J⟩ := ins_at I ha
  obtain ⟨m', hF⟩ := I.fr
  refine callType_newIn PySem.F.called_bool PySem.F.newNe_bool (PySem.F.typeCall_bool_1 _) (PySem.F.newCall_bool_1 _) (fun obj => PySem.F.args_object_init_2 obj _) PySem.F.entry_bool_new (bool_new _ _ _) ?_
  show wpAny (model X.prog X.w) X.A.in1.in1 (truthy (.ref a)) _ _ s
  refine PySem.W.truthy_K hF I.ok.mod.kin J m.at_ m.fn ?_
  refine wpAny_mono (run_at (us := [.ref a]) (vs := [.ref a]) F hr.in1.in1 I.env0.in1.in1 hb .nil hx I (.cons rfl .nil) q) (fun w s' z => ?_) fun _ _ z => z
  obtain ⟨z, H', I', rz, k, ez, qz⟩ := z
  subst ez
  cases rz
  exact ⟨rfl, .bl k, H', I', rfl, qz⟩
end
end EC
end
section
set_option Elab.async false
set_option linter.all false
set_option maxRecDepth 100000
set_option maxHeartbeats 2000000
/-! R4c: enumerate over a tuple. -/
namespace EC
open PySem PySem.Spec PyProof.Rows L2

theorem meets_enumerate_newT (t : Addr) (items : Array Value) :
    Meets (Builtin.«enumerate.__new__» ⟨[.type "enumerate", .ref t], []⟩) (fun _ R s => s.heap.IsTuple t items ∧
      R (.ok (.ret (.ref (s.heap.push { cls := .type "tuple_iterator", data := .fields #[.ref t, .int 0 0] }).objs.size)))
        { s with heap := (s.heap.push { cls := .type "tuple_iterator", data := .fields #[.ref t, .int 0 0] }).push { cls := .type "enumerate", data := .fields #[.none, .bool false, .ref s.heap.objs.size, rawInt 0, .none, .none] } }) :=
  .of_wp fun prog w A R s h => by
    obtain ⟨hp, g, d, tk, os⟩ := s; obtain ⟨hl, h⟩ := h
    have hsub := PySem.sub_enumerate
    have q1 : ∀ {A' : Around} {E : Value → Shared → Prop} {Q : Value → Shared → Prop}, Q (.ref hp.objs.size) ⟨hp.push { cls := .type "tuple_iterator", data := .fields #[.ref t, .int 0 0] }, g, d, tk, os⟩ → wpAny (model prog w) A' (pyIter (.ref t)) Q E ⟨hp, g, d, tk, os⟩ :=
      fun q => wpAny_pyIter_tuple hl q
    wp_walk using q1
    refine wpAny_stack_any fun st => wpAny_pure ?_
    split
    · rename_i c _ _ _ _ _
      cases (c == Value.type "enumerate")
      · wp_walk using q1
        exact ⟨_, rfl, h⟩
      · wp_walk using q1
        exact ⟨_, rfl, h⟩
    · wp_walk using q1
      exact ⟨_, rfl, h⟩
section
variable {prog : Program} {w : World} {A : Around} {E : Value → Shared → Prop} {s : Shared}
theorem call_enumerate_tup {l : Addr} {items : Array Value} {Q : Value → Shared → Prop} (hL : s.heap.IsTuple l items)
    (h : ∀ h', IsEnum h' (s.heap.objs.size + 1) s.heap.objs.size 0 .none → h'.IsTupleIter s.heap.objs.size l 0 → h'.objs.size = s.heap.objs.size + 2 →
      (∀ b o, s.heap.get? b = some o → h'.get? b = some o) → Q (.ref (s.heap.objs.size + 1)) { s with heap := h' }) :
    wpAny (model prog w) A (call (.type "enumerate") [.ref l]) Q E s := by
  refine callType_new PySem.F.called_enumerate (by decide) (PySem.F.typeCall_enumerate_1 _) (PySem.F.newCall_enumerate_1 _) (fun obj => PySem.F.args_object_init_2 obj _) PySem.F.entry_enumerate_new
    (meets_enumerate_newT l items) ⟨hL, ?_⟩
  have hz : (s.heap.push { cls := .type "tuple_iterator", data := .fields #[.ref l, .int 0 0] }).objs.size = s.heap.objs.size + 1 := Heap.size_push ..
  show _ ∧ _
  rw [hz]
  have he : IsEnum ((s.heap.push { cls := .type "tuple_iterator", data := .fields #[.ref l, .int 0 0] }).push
      { cls := .type "enumerate", data := .fields #[.none, .bool false, .ref s.heap.objs.size, rawInt 0, .none, .none] }) (s.heap.objs.size + 1) s.heap.objs.size 0 .none := by
    have := Heap.get?_push_size (s.heap.push { cls := .type "tuple_iterator", data := .fields #[.ref l, .int 0 0] })
      (o := { cls := .type "enumerate", data := .fields #[.none, .bool false, .ref s.heap.objs.size, rawInt 0, .none, .none] }) rfl
    rw [hz] at this; exact this
  refine ⟨⟨_, he, rfl⟩, h _ he ⟨_, Heap.get?_push_of_some _ (Heap.get?_push_size _ rfl), rfl, rfl⟩ (by rw [Heap.size_push, hz]) fun b o y => Heap.get?_push_of_some _ (Heap.get?_push_of_some _ y)⟩
end
/-- the tuple at a as it stands at each turn, the items in new pairs -/
def IteT (K : PySem.W.Frag) (a : Addr) : It :=
  ⟨fun i H => ∃ (xs : List V) (x : V), SqT K H a xs ∧ xs[i]? = some x, fun i H v H' => ∃ T x, v = .ref T ∧ H T = none ∧ H' = upd H T (.tup [.int (i : Nat), x]) ∧ ∀ xs, SqT K H a xs → xs[i]? = some x, fun i H => ∃ xs : List V, SqT K H a xs ∧ xs.length ≤ i⟩
theorem turn_enumT {P : Program} {w : World} {K : PySem.W.Frag} {elts : List Expr} {kk : Nat} {tpos : Pos} (a e it : Addr) :
    Turn P w K (.Tuple elts kk tpos) (IteT K a) [e, it] e (fun i h => (∃ old, IsEnum h e it ((i : Nat) : Int) old) ∧ h.IsTupleIter it a i ∧ e ≠ it) where
  mem := by simp
  obj := fun i h st b hb => by
    obtain ⟨⟨old, he⟩, ⟨o, ho, hc, hd⟩, _⟩ := st
    have e' : b = e ∨ b = it := by simpa using hb
    rcases e' with z | z
    · rw [z]; exact ⟨_, he, fun v q => nomatch q⟩
    · rw [z]; exact ⟨o, ho, fun v q => by rw [hd] at q; cases q⟩
  keep := fun i h h' st k => let ⟨⟨old, he⟩, hi, hne⟩ := st; ⟨⟨old, k e (by simp) _ he⟩, hi.at fun o q => k it (by simp) o q, hne⟩
  item := by
    intro X hP hw hK hc i pins s σ H E I hf st hg
    subst hP hw hK
    obtain ⟨⟨old, he⟩, hit, hne⟩ := st
    obtain ⟨xs, x, hq, hx⟩ := hg
    obtain ⟨its, rv, p, hz⟩ := I.tuple hq
    obtain ⟨u, hu, ru⟩ := rv.get hx
    have pt : s.heap.IsTuple a its.toArray := p
    have hel : e < s.heap.objs.size := Heap.lt_size he
    have hil : it < s.heap.objs.size := by obtain ⟨_, q, _⟩ := hit; exact Heap.lt_size q
    have hai : a ≠ it := by
      intro z
      obtain ⟨o1, g1, c1, _⟩ := pt
      obtain ⟨o2, g2, c2, _⟩ := hit
      rw [z, g2] at g1
      cases g1
      rw [c2] at c1
      exact absurd (congrArg (fun v : Value => match v with | .type n => n | _ => "") c1) (by decide)
    have hae : e ≠ a := by
      intro z
      obtain ⟨o1, g1, c1, _⟩ := pt
      have he2 : s.heap.get? e = some _ := he
      rw [z, g1] at he2
      cases he2
      exact absurd (show Value.type "enumerate" = Value.type "tuple" from c1) (by decide)
    have hh : X.A.in1.handled = none := I.ok.hd hc
    have hlt : i < its.toArray.size := by
      have h1 : i < xs.length := (List.getElem?_eq_some_iff.mp hx).1
      rw [List.size_toArray, ← rv.length]
      exact h1
    refine wpAny_pyNext_enum_itemD (Draws.tuple hh it a hai its.toArray) he ⟨hit, pt⟩ hlt hne (by simp [hne, hae]) fun u' h' tk hP ho hst' hT hsz hk => ?_
    have eu : u' = u := by
      have h1 : its.toArray[i]? = some u := by simpa using hu
      exact Option.some.inj (hP.symm.trans h1)
    subst eu
    refine ⟨_, rfl, wpAny_letOwnedTupleGo_enum (s := { s with heap := h', toks := tk + 1 }) ho fun h'' he' sb => ?_⟩
    have hT2 : h''.get? s.heap.objs.size = some { cls := .type "tuple", data := .seq #[.int i tk, u'] } := (sb.2 _ (Nat.ne_of_gt hel)).trans hT
    have new : ObjOk X.prog X.w (upd H s.heap.objs.size (.tup [.int (i : Nat), x])) h'' s.heap.objs.size (.tup [.int (i : Nat), x]) :=
      ⟨by show 2 ≤ sizeLine; decide, [.int i tk, u'], .cons ⟨_, rfl⟩ (.cons ru .nil), ⟨_, hT2, rfl, _, rfl⟩⟩
    have I1 : Inv X pins σ (upd H s.heap.objs.size (.tup [.int (i : Nat), x])) { s with heap := h'', toks := tk + 1 } :=
      I.turnedNew (ch := [e, it]) (fun b ob hb q => (sb.2 b (fun z => hb (by simp [z]))).trans (hk b ob (fun z => hb (by simp [z])) (fun z => hb (by simp [z])) q)) hf (Nat.le_refl _) new
    refine ⟨.ref s.heap.objs.size, _, I1, rfl, ⟨_, x, rfl, I.hok.fresh (Nat.le_refl _), rfl, fun ys hy => by rw [I.tuple_inj hy hq]; exact hx⟩, ⟨⟨u', ?_⟩, hst'.1.at fun o q => (sb.2 it (Ne.symm hne)).trans q, hne⟩, fun b hb => ?_⟩
    · have e1 : ((i + 1 : Nat) : Int) = (i : Int) + 1 := by omega
      rw [e1]; exact he'
    · have hb' : b < s.heap.objs.size := by
        have e' : b = e ∨ b = it := by simpa using hb
        rcases e' with z | z
        · rw [z]; exact hel
        · rw [z]; exact hil
      rw [upd_ne (Nat.ne_of_lt hb')]
      exact (hf b hb).1
  done := by
    intro X hP hw hK hc i pins s σ H E I hf st hg
    subst hP hw hK
    obtain ⟨⟨old, he⟩, hit, hne⟩ := st
    obtain ⟨xs, hq, hx⟩ := hg
    obtain ⟨its, rv, p, hz⟩ := I.tuple hq
    have pt : s.heap.IsTuple a its.toArray := p
    obtain ⟨f0, f1, f2, f3, f4, f5⟩ := hf it (by simp)
    have hl := rv.length
    have hT : s.TypeIs (.ref e) "enumerate" := ⟨_, he, rfl⟩
    have hh : X.A.in1.handled = none := I.ok.hd hc
    unfold pyNext
    refine wpAny_bind (wpAny_attempt (wpAny_callSpecial?_slot (name := Str.ofString "__next__") hT PySem.F.slot_enumerate_next
      (wpAny_call_entry PySem.F.slot_enumerate_next hT PySem.F.entry_enumerate_next ?_ (PySem.F.args_enumerate_next_1 _))))
    show wpAny _ _ (field (.ref e) 2 >>= _) _ _ _
    refine wpAny_bind (wpAny_field he rfl (x := .ref it) rfl ?_)
    refine wpAny_bind (wpAny_nextOf_tuple_end hh hit pt (by simp; omega) fun h' x eb hx' => ?_)
    obtain ⟨o, ho, hc'⟩ := hx'
    refine wpAny_bind (wpAny_isInstance (T := "StopIteration") (b := true) ⟨o, ho, hc'⟩ isSubtype_stop ?_)
    exact wpAny_pure ⟨rfl, I.turned (t' := s.toks) (fun b o hb q => eb b o hb q) f0 f1 f3 f4 f5⟩
  self := fun A i s Q E st h => let ⟨⟨_, he⟩, _⟩ := st; wpAny_pyIter_enum he h
def iEnumT (K : PySem.W.Frag) (ta : TA) : TI := fun σ H R => ta σ H fun vs H1 => ∃ a xs, vs = [.ref a] ∧ SqT K H1 a xs ∧ R (IteT K a) H1
theorem pi_enumT {X : Cx} {e : Expr} {ta : TA} {p pos tpos : Pos} {elts : List Expr} {kk : Nat} (hg : Gl X "enumerate") (hm : X.mg "enumerate" = none) (ha : PA X [e] ta) (hs : starEach [e] X.env = [(false, eval e X.env)] := by rfl) :
    PI X (.Tuple elts kk tpos) (.Call (.Name "enumerate" p) [e] [] pos) (iEnumT X.K ta) := by
  refine ⟨fun pins s σ H R I h => ?_⟩
  refine Call_ (ld_blt I hg hm boot_enumerate (PyProof.Rows.callWith_type1 (thn (ha.run pos pins s σ H _ I h) fun us s1 ⟨vs, H1, I1, r1, q1⟩ => ?_) hs rfl))
  obtain ⟨a, xs, ex, hq, q⟩ := q1
  subst ex
  cases r1 with
  | cons r rr =>
    cases rr
    cases r
    obtain ⟨its, rv, p', hz⟩ := I1.tuple hq
    refine call_enumerate_tup (show s1.heap.IsTuple a its.toArray from p') fun h' he hit hsz hk => wpAny_pyIter_enum he ?_
    have I2 : Inv X pins σ H1 { s1 with heap := h' } := I1.kept (t' := s1.toks) hk
    refine ⟨s1.heap.objs.size + 1, [s1.heap.objs.size + 1, s1.heap.objs.size], _, _, H1, rfl, I2, turn_enumT a (s1.heap.objs.size + 1) s1.heap.objs.size, ⟨⟨.none, he⟩, hit, Nat.succ_ne_self _⟩, fun b hb => ?_, q⟩
    have e' : b = s1.heap.objs.size + 1 ∨ b = s1.heap.objs.size := by simpa using hb
    have hle : s1.heap.objs.size ≤ b := by
      rcases e' with z | z
      · rw [z]; exact Nat.le_add_right _ _
      · rw [z]; exact Nat.le_refl _
    exact I1.fpOk hle (I1.hok.fresh hle)
theorem walk_enumT {K : PySem.W.Frag} {a : Addr} {xs : List V} : Walk (IteT K a) xs.length (fun H => SqT K H a xs) (YPair (fun i => some (.int (i : Nat))) (fun i => xs[i]?)) := by
  refine ⟨fun i _ hi q => ⟨xs, xs[i], q, by simp [hi]⟩, fun _ q => ⟨xs, q, Nat.le_refl _⟩, fun i H v H' _ q y => ?_⟩
  obtain ⟨T, x, h1, h2, h3, h4⟩ := y
  exact ⟨T, .int (i : Nat), x, h1, h2, h3, rfl, h4 xs q⟩
end EC
end
section
set_option Elab.async false
set_option linter.all false
set_option maxRecDepth 100000
set_option maxHeartbeats 2000000
/-! R4d: match, its first case taken. -/
namespace EC
open PySem PySem.Spec PyProof.Rows L2
variable {X : Cx}
/-- match e: case 'z': body (taken) -/
def tMatch1 (te : TE) (z : Str) (tb : TS) : TS := fun D σ H => te σ H fun x H1 => x = .str z ∧ tb D σ H1
theorem ps_match1 {e : Expr} {te : TE} {z : Str} {k : Nat} {p1 p2 pos : Pos} {body : List Stmt} {rest : List MatchCase} {tb : TS} (he : PE X e te) (hb : PSs X body tb) :
    PS X (.Match e (⟨.MatchValue (.Constant (.str z) k p1) p2, none, body⟩ :: rest) pos) (tMatch1 te z tb) := by
  refine ⟨fun pins s σ H D I h => ?_⟩
  refine wpAny_Match (thn (he.run pins s σ H _ I h) fun v s1 ⟨x, H1, I1, r1, q1⟩ => ?_)
  obtain ⟨rfl, q⟩ := q1
  refine wpAny_matchCases_cons (wpAny_matchPattern_Value ?_)
  refine thn ((pe_str (X := X) (x := z) (j := k) (pos := p1)).run pins s1 σ H1 (fun y H2 => y = .str z ∧ H2 = H1) I1 ⟨rfl, rfl⟩) fun u s2 ⟨y, H2, I2, r2, q2⟩ => ?_
  obtain ⟨rfl, rfl⟩ := q2
  refine thn (op_eq pins s2 σ H2 _ _ v u (fun y H3 => y = .bl true ∧ H3 = H2) I2 r1 r2 ⟨rfl, by simp, rfl⟩) fun c s3 ⟨y, H3, I3, r3, q3⟩ => ?_
  obtain ⟨rfl, rfl⟩ := q3
  cases r3
  refine wpAny_truthy_bool ?_
  show wpAny _ _ (assignInOrder [] []) _ _ s3
  exact wpAny_assignInOrder_none (hb.run pins s3 σ H3 D I3 q)
end EC
end
section
set_option Elab.async false
set_option linter.all false
set_option maxRecDepth 100000
set_option maxHeartbeats 2000000
/-! R4e: a dict display that begins with another dict: two stars, d, then one pair. -/
namespace EC
open PySem PySem.Spec PyProof.Rows L2
section
variable {prog : Program} {w : World} {K : Type} [DecidableEq K] {knd : PySem.KeyKind prog w K} {A : Around} {E : Value → Shared → Prop} {s : Shared}
theorem dictPut_pairs {d : Addr} {kvs : List (K × Value)} {k : K} {key v : Value} {Q : Unit → Shared → Prop} (hkey : knd.is k key = true) (hm : s.heap.DictOf knd d kvs)
    (hQ : ∀ h', h'.DictOf knd d (stored kvs k v) → Heap.SameBut d s.heap h' → Q () { s with heap := h' })
    (hsz : kvs.length ≤ sizeLine) :
    wpAny (model prog w) A (dictPut d (knd.hash k) key v) Q E s := by
  obtain ⟨o, es, ep, ho, hc, hd, hk, hp, hn⟩ := hm
  have hes : es.size ≤ sizeLine := by have e1 := hp.length; have e2 : es.toList.length = es.size := by simp
                                      omega
  unfold dictPut
  refine wpAny_bind (wpAny_dictFind_of hkey ho hd hk ?_)
  have hidx : (es.findIdx? fun e => knd.is k e.key) = kvs.findIdx? fun kv => decide (kv.1 = k) := by
    rw [← hp.findIdx k]; obtain ⟨l⟩ := es; simp
  cases hi : es.findIdx? fun e => knd.is k e.key with
  | some i =>
    refine wpAny_updateDict ho hd (hQ _ ⟨_, _, ep, Heap.get?_update_self _ ho (Obj.isFreed_of_dict (Obj.data_mapDict hd _)),
      hc.mapDict _, Obj.data_mapDict hd _, hk.modify _ _, ?_, ?_⟩ (Heap.SameBut.update ..))
    · rw [stored, if_pos (any_of_findIdx_some (hidx ▸ hi))]
      have hl : (es.toList.findIdx? fun e => knd.is k e.key) = some i := by rw [← hi]; obtain ⟨l⟩ := es; simp
      have := hp.modify hn hl v
      obtain ⟨l⟩ := es
      simpa using this
    · rw [stored, if_pos (any_of_findIdx_some (hidx ▸ hi)), keys_map_store]; exact hn
  | none =>
    have hnot : k ∉ kvs.map (·.1) := not_mem_of_findIdx_none (hidx ▸ hi)
    have hany : ¬ (kvs.any fun kv => decide (kv.1 = k)) = true := by
      rw [List.any_eq_true]; rintro ⟨kv, hkv, he⟩
      exact hnot (List.mem_map.mpr ⟨kv, hkv, of_decide_eq_true he⟩)
    refine wpAny_updateDictKeys (hz := hes) ho hd (hQ _ ⟨_, _, ep + 1, Heap.get?_update_self _ ho (Obj.isFreed_of_dict (Obj.data_mapDictKeys hd _)),
      hc.mapDictKeys _, Obj.data_mapDictKeys hd _, hk.push hkey _, ?_, ?_⟩ (Heap.SameBut.update ..))
    · rw [stored, if_neg hany]
      have := hp.append hkey (knd.hash k) v
      obtain ⟨l⟩ := es
      simpa using this
    · rw [stored, if_neg hany, List.map_append, List.nodup_append]
      refine ⟨hn, by simp, ?_⟩
      intro a ha b hb
      simp only [List.map_cons, List.map_nil, List.mem_singleton] at hb
      subst hb
      exact fun e => hnot (e ▸ ha)
theorem mergeMap {d o : Addr} {kvs more : List (K × Value)} {Q : Unit → Shared → Prop} (hnr : ∀ k a, knd.is k (.ref a) = false) (hdo : d ≠ o) (hoS : (o == sysModules) = false)
    (hd : s.heap.DictOf knd d kvs) (ho : s.heap.DictOf knd o more)
    (hQ : ∀ h', h'.DictOf knd d (merged kvs more) → h'.DictOf knd o more → Heap.SameBut d s.heap h' → Q () { s with heap := h' })
    (hsz : kvs.length + more.length ≤ sizeLine) :
    wpAny (model prog w) A (mergeMapping d (.ref o) false) Q E s := by
  obtain ⟨od, esd, epd, hod, hcd, hdd, hkd, hpd, hnd⟩ := id hd
  obtain ⟨oo, eso, epo, hoo, hco, hdo', hko, hpo, hno⟩ := id ho
  have hlen : more.length = eso.size := by rw [← hpo.length]; simp
  unfold mergeMapping
  refine wpAny_bind (wpAny_isInstance (T := "dict") (U := "dict") (b := true) ho.typeIs PySem.F.sub_dict_dict ?_)
  dsimp only
  rw [if_pos rfl]
  refine wpAny_bind (wpAny_specialOf ho.typeIs PySem.F.slot_dict_iter.lookup (wpAny_bind (wpAny_pure ?_)))
  rw [show ((some (Value.builtin "dict.__iter__") : Option Value) == some (Value.builtin "dict.__iter__")) = true from by decide +kernel]
  dsimp only
  rw [if_neg (by rw [hoS]; exact Bool.false_ne_true)]
  have loop : wpAny (model prog w) A (do
      let l ← dictEntries o
      let epoch ← dictEpoch o
      forIn (List.range l.size) PUnit.unit fun i (_ : PUnit) => (do
          let l' ← dictEntries o
          match l'[i]? with
            | some e => do
              holding [e.key, e.val] (dictPut d e.hash e.key e.val)
              let ep' ← dictEpoch o
              if (ep' != epoch) = true then do
                  (unsupported "dict.changed-during-merge" : Sem PUnit)
                  pure (ForInStep.yield PUnit.unit)
                else pure (ForInStep.yield PUnit.unit)
            | _ => do
              (unsupported "dict.changed-during-merge" : Sem PUnit)
              pure (ForInStep.yield PUnit.unit) : Sem (ForInStep PUnit))
      pure ()) Q E s := by
    refine wpAny_bind (wpAny_dictEntries hoo hdo' ?_)
    refine wpAny_bind (wpAny_dictEpoch hoo hdo' ?_)
    refine wpAny_bind ?_
    rw [List.range_eq_range']
    refine wpAny_forIn_list _
      (fun rest _ s' => ∃ h' i, s' = { s with heap := h' } ∧ rest = List.range' i (eso.size - i) ∧ i ≤ eso.size ∧ h'.DictOf knd d (merged kvs (more.take i)) ∧ h'.get? o = some oo ∧ Heap.SameBut d s.heap h')
      _ ?_ ?_ _ _ ⟨s.heap, 0, rfl, by simp, Nat.zero_le _, by simpa [merged] using hd, hoo, Heap.SameBut.refl _ _⟩
    · rintro x rest b s' ⟨h', i, rfl, hr, hi, hd', hoo', hs'⟩
      have hlt : i < eso.size := by
        rcases Nat.lt_or_ge i eso.size with h | h
        · exact h
        · rw [Nat.sub_eq_zero_of_le h] at hr; simp at hr
      obtain ⟨rfl, hrest⟩ : x = i ∧ rest = List.range' (i + 1) (eso.size - (i + 1)) := by
        have e : eso.size - i = (eso.size - (i + 1)) + 1 := by omega
        rw [e, List.range'_succ] at hr
        injection hr with h1 h2
        exact ⟨h1, h2⟩
      refine wpAny_bind (wpAny_dictEntries hoo' hdo' ?_)
      rw [Array.getElem?_eq_getElem hlt]
      obtain ⟨kv, hkv⟩ : ∃ kv, more[x]? = some kv := ⟨more[x]'(by rw [hlen]; exact hlt), List.getElem?_eq_getElem _⟩
      obtain ⟨k, v⟩ := kv
      obtain ⟨hkey, hval⟩ := hpo.get? (e := eso[x]) (by simp [hlt]) hkv
      obtain ⟨k', hkey', hhash⟩ := hko eso[x] (Array.getElem_mem hlt)
      obtain rfl : k' = k := knd.inj _ _ _ hkey' hkey
      show wpAny _ _ (holding [eso[x].key, eso[x].val] (dictPut d eso[x].hash eso[x].key eso[x].val) >>= _) _ _ _
      rw [hhash, hval]
      have hmx : (merged kvs (more.take x)).length ≤ sizeLine := by
        have e1 := merged_length_le kvs (more.take x)
        have e2 : (more.take x).length ≤ more.length := by rw [List.length_take]; omega
        omega
      refine wpAny_bind (wpAny_holding (dictPut_pairs (hsz := hmx) hkey hd' fun h'' hd'' hs'' => ?_))
      have hoo'' : h''.get? o = some oo := (hs''.2 o (Ne.symm hdo)).trans hoo'
      refine wpAny_bind (wpAny_dictEpoch hoo'' hdo' ?_)
      rw [if_neg (by simp)]
      exact wpAny_pure ⟨h'', x + 1, rfl, hrest, hlt, by rw [merged_take_succ kvs more x (k', v) hkv]; exact hd'', hoo'', hs'.trans hs''⟩
    · rintro b s' ⟨h', i, rfl, hr, hi, hd', hoo', hs'⟩
      have hin : i = eso.size := by
        rcases Nat.lt_or_ge i eso.size with h | h
        · have e : eso.size - i = (eso.size - (i + 1)) + 1 := by omega
          rw [e, List.range'_succ] at hr; exact nomatch hr
        · exact Nat.le_antisymm hi h
      refine wpAny_pure (hQ h' ?_ ⟨oo, eso, epo, hoo', hco, hdo', hko, hpo, hno⟩ hs')
      rw [hin, ← hlen, List.take_length] at hd'; exact hd'
  refine wpAny_bind (wpAny_dictEntries hod hdd ?_)
  have pass : wpAny (model prog w) A (forIn eso PUnit.unit fun e (_ : PUnit) =>
      (match e.key with
        | Value.ref a => do
          let q ← specialOf e.key (Str.ofString "__eq__")
          if (q != some (Value.builtin "object.__eq__")) = true then
              if (Array.filter (fun x => x.hash == e.hash) eso).size > 1 then do
                unsupported "dict.merge-into-an-empty-dict:keys-of-equal-hash"
                pure (ForInStep.yield PUnit.unit)
              else pure (ForInStep.yield PUnit.unit)
            else pure (ForInStep.yield PUnit.unit)
        | x => pure (ForInStep.yield PUnit.unit) : Sem (ForInStep PUnit))) (fun _ s' => s' = s) E s := by
    rw [← Array.forIn_toList]
    refine wpAny_forIn_list _ (fun rest _ s' => s' = s ∧ ∀ e ∈ rest, e ∈ eso) _ ?_ ?_ _ _ ⟨rfl, fun e he => by simpa using he⟩
    · rintro x rest b s' ⟨rfl, hm⟩
      obtain ⟨k', hkey', _⟩ := hko x (hm x List.mem_cons_self)
      cases hx : x.key with
      | ref a =>
        rw [hx, hnr] at hkey'
        cases hkey'
      | _ => exact wpAny_pure ⟨rfl, fun e he => hm e (List.mem_cons_of_mem _ he)⟩
    · rintro b s' ⟨rfl, _⟩
      rfl
  split
  · refine wpAny_bind (wpAny_dictEntries hoo hdo' (wpAny_bind (wpAny_mono pass (fun _ s' e => ?_) fun _ _ z => z)))
    subst e
    exact loop
  · exact loop
end
end EC
end
section
set_option Elab.async false
set_option linter.all false
set_option maxRecDepth 100000
set_option maxHeartbeats 2000000
/-! R4f: the display of two stars, d, k: v as a rule. -/
namespace EC
open PySem PySem.Spec PyProof.Rows L2

theorem mix_noref (P : Program) (w : World) (k : Key) (a : Addr) : (mixKind P w).is k (.ref a) = false := by
  rw [mixKind_is]
  cases k <;> rfl

/-- the pieces of the display -/
theorem disp_eq (m k v : Sem Value) : dictDisplay [(none, m), (some k, v)] = (do
    let d ← alloc { cls := .type "dict", data := .dict #[] }
    let x ← holding [.ref d] m
    (((holding [.ref d, x] (mergeMapping d x false)).onRaise fun e => do let _ ← holding [.ref d, x, e] (runValue (.builtin "proto.let_go" {}))).tryCatch fun e => do
        if ← isInstance e (.type "AttributeError") then
          rule "dict.display.not-a-mapping"; raiseError "TypeError" s!"'{← typeNameOf x}' object is not a mapping"
        throw e).onRaise fun e => do let _ ← holding [.ref d, e] (runValue (.builtin "proto.let_go" {}))
    let sub ← holding [.ref d] (subDict [(k, v)])
    (holding [.ref d, .ref sub] (mergeMapping d (.ref sub) false)).onRaise fun e => do let _ ← holding [.ref d, e] (runValue (.builtin "proto.let_go" {}))
    pure (.ref d)) := by
  unfold dictDisplay
  simp only [List.forIn_cons, List.forIn_nil, List.isEmpty_nil, if_true, pure_bind, bind_assoc, List.nil_append, List.length_singleton, List.isEmpty_cons, Bool.false_eq_true, if_false, Nat.reduceBEq]
  first | rfl | skip
/-- two stars, d, k: v: p the new dict, q the dict of the last pair on the way -/
def tStarD (td tk tv : TE) : TE := fun σ H Q => ∀ p, H p = none → td σ (upd H p (.dK [])) fun x H1 => ∃ (o : Addr) (kvs : List (Key × V)), x = .ref o ∧ o ≠ p ∧ Rd H1 o (.dK kvs) ∧ H1 p = some (.dK []) ∧ kvs.length < 100000 ∧
  ∀ q, (upd H1 p (.dK kvs)) q = none → tk σ (upd (upd H1 p (.dK kvs)) q (.dK [])) fun a H2 => tv σ H2 fun b H3 => ∃ z : Str, a = .str z ∧ H3 q = some (.dK []) ∧ H3 p = some (.dK kvs) ∧
    Q (.ref p) (upd (upd H3 q (.dK [(.inr z, b)])) p (.dK (putK kvs (.inr z) b)))
section
variable {X : Cx}
theorem pe_starD {e k v : Expr} {td tk tv : TE} {pos : Pos} (hd : PE X e td) (hk : PE X k tk) (hv : PE X v tv) : PE X (.Dict [none, some k] [e, v] pos) (tStarD td tk tv) := by
  refine ⟨fun pins s σ H Q I h => ?_⟩
  rw [arm_eval_Dict]
  have e1 : (evalEachOpt [none, some k] X.env).zip ((evalEach [e, v] X.env).map fun v => do let x ← v; standAt pos; pure x) = [(none, do let x ← eval e X.env; standAt pos; pure x), (some (eval k X.env), do let x ← eval v X.env; standAt pos; pure x)] := by
    first | rfl | simp [evalEachOpt, evalEach]
  rw [e1, disp_eq]
  refine wpAny_bind (wpAny_standAt (wpAny_bind (wpAny_alloc ?_)))
  have hn := I.hok.fresh (Nat.le_refl s.heap.objs.size)
  have I1 := I.laid (a := s.heap.objs.size) (o := .dK []) (h' := s.heap.push { cls := .type "dict", data := .dict #[] }) (t' := s.toks) (fun _ _ q => Heap.get?_push_of_some _ q) (Nat.le_refl _) (dk_empty s.heap I.big)
  have h1 := h _ hn
  generalize s.heap.objs.size = p at hn I1 h1 ⊢
  refine wpAny_bind (wpAny_holding (wpAny_bind (thn (hd.run pins _ σ _ _ I1 h1) fun x0 s2 ⟨x, H2, I2, r2, q2⟩ => wpAny_bind (wpAny_standAt (wpAny_pure ?_)))))
  obtain ⟨o, kvs, rfl, hop, ho, hp, hl, q⟩ := q2
  cases r2
  obtain ⟨z1, hs1, vs1, rel1, dd1⟩ := dk_rd I2.hok ho
  obtain ⟨z0, hs0, vs0, rel0, dd0⟩ := dk_of I2.hok hp
  cases rel0
  have hlv : vs1.length < 100000 := by rw [← rel1.length]; exact hl
  refine wpAny_bind (wpAny_onRaise (wpAny_tryCatch (wpAny_onRaise (wpAny_holding (mergeMap (knd := mixKind X.prog X.w) (mix_noref _ _) (Ne.symm hop) hs1 dd0 dd1 (fun h' a b c => ?_) (by rw [sizeLine_eq]; simp only [List.length_nil]; omega))))))
  have em : merged [] vs1 = vs1 := by
    obtain ⟨_, _, _, _, _, _, _, _, hnd⟩ := dd1
    exact merged_nil_of_nodup vs1 hnd
  rw [em] at a
  have he : ∃ q, h'.get? p = some q := let ⟨q, _, _, hq, _⟩ := a; ⟨q, hq⟩
  have I3 : Inv X pins σ (upd H2 p (.dK kvs)) { s2 with heap := h' } := d_write (t' := s2.toks) I2 (by rw [hp]; exact True.intro) c he (dk_new z1 hs0 rel1 a)
  have hn4 := I3.hok.fresh (Nat.le_refl h'.objs.size)
  have I4 := I3.laid (a := h'.objs.size) (o := .dK []) (h' := h'.push { cls := .type "dict", data := .dict #[] }) (t' := s2.toks) (fun _ _ q => Heap.get?_push_of_some _ q) (Nat.le_refl _) (dk_empty h' I3.big)
  have q4 := q _ hn4
  refine wpAny_bind (wpAny_holding (wpAny_subDict (knd := mixKind X.prog X.w) (by show 1 ≤ 15; decide) ?_))
  show wpAny _ _ _ _ _ { s2 with heap := h'.push { cls := .type "dict", data := .dict #[] } }
  have hpq : h'.objs.size ≠ p := by
    intro z
    obtain ⟨qo, hqo⟩ := he
    have h9 := Heap.lt_size hqo
    rw [z] at h9
    exact Nat.lt_irrefl _ h9
  show wpAny _ _ (evalPairs _) (fun vs s₁ => ∃ kvs', Carries (mixKind X.prog X.w) vs kvs' ∧ s₁.heap.DictOf (mixKind X.prog X.w) h'.objs.size [] ∧ _) _ _
  generalize h'.objs.size = qa at hn4 I4 q4 hpq ⊢
  refine evalPairs_cons (thn (hk.run pins _ σ _ _ I4 q4) fun kv s5 ⟨y, H5, I5, r5, q5⟩ => ?_)
  refine wpAny_bind (thn (hv.run pins s5 σ H5 _ I5 q5) fun vv s6 ⟨b, H6, I6, r6, z, ez, hq6, hp6, q6⟩ => wpAny_bind (wpAny_standAt (wpAny_pure (evalPairs_nil ?_))))
  subst ez
  obtain ⟨t5, rfl⟩ := r5
  obtain ⟨z7, hs7, vs7, rel7, dd7⟩ := dk_of I6.hok hq6
  cases rel7
  refine ⟨[(.inr z, vv)], ⟨mixKind_str _ _ _ _, rfl, True.intro⟩, dd7, fun h8 a8 c8 => ?_⟩
  have he8 : ∃ q, h8.get? qa = some q := let ⟨q, _, _, hq, _⟩ := a8; ⟨q, hq⟩
  have I8 : Inv X pins σ (upd H6 qa (.dK [(.inr z, b)])) { s6 with heap := h8, toks := s6.toks + 1 } :=
    d_write (t' := s6.toks + 1) I6 (by rw [hq6]; exact True.intro) c8 he8 (dk_new (by show 1 ≤ sizeLine; decide) hs7 (.cons ⟨rfl, r6⟩ .nil) a8)
  have hp8 : (upd H6 qa (.dK [(.inr z, b)])) p = some (.dK kvs) := by rw [upd_ne (Ne.symm hpq)]; exact hp6
  obtain ⟨z9, hs9, vs9, rel9, dd9⟩ := dk_of I8.hok hp8
  have hlv9 : vs9.length < 100000 := by rw [← rel9.length]; exact hl
  refine wpAny_bind (wpAny_onRaise (wpAny_holding (mergeMap (knd := mixKind X.prog X.w) (mix_noref _ _) (Ne.symm hpq) hs7 dd9 a8 (fun h10 a10 b10 c10 => wpAny_pure ?_) (by rw [sizeLine_eq]; show vs9.length + 1 ≤ _; omega))))
  have he10 : ∃ q, h10.get? p = some q := let ⟨q, _, _, hq, _⟩ := a10; ⟨q, hq⟩
  have I10 : Inv X pins σ (upd (upd H6 qa (.dK [(.inr z, b)])) p (.dK (putK kvs (.inr z) b))) { s6 with heap := h10, toks := s6.toks + 1 } :=
    d_write (s := { s6 with heap := h8, toks := s6.toks + 1 }) (t' := s6.toks + 1) I8 (by rw [hp8]; exact True.intro) c10 he10 (dk_new (by have := length_putK kvs (.inr z) b; rw [sizeLine_eq]; omega) hs9 (rel9.put (.inr z) r6) a10)
  exact ⟨.ref p, _, I10, rfl, q6⟩
end
end EC
end
section
set_option Elab.async false
set_option linter.all false
set_option maxRecDepth 100000
set_option maxHeartbeats 2000000
/-! B0: the text, what the top leaves, bundles. -/
namespace EC
open PySem PySem.Spec PyProof.Rows L2
def top (i : Nat) : Stmt := PySem.Challenge.pw_enumcraft_k54_whole_order_of_members.main.body.getD i (.Pass ⟨0, 0, 0, 0⟩)

abbrev s_is_integer : Stmt := top 38
abbrev s_is_text : Stmt := top 39
abbrev s_is_name : Stmt := top 40
abbrev s_is_reserved : Stmt := top 41
abbrev s_is_nested : Stmt := top 42
abbrev s_is_value : Stmt := top 43
abbrev s_is_flag_value : Stmt := top 46
abbrev s_need_flag_values : Stmt := top 47
abbrev s_bits_of : Stmt := top 48
abbrev s_split : Stmt := top 51
abbrev s_kept_reading : Stmt := top 52
abbrev s_reading : Stmt := top 53
abbrev s_line_behind : Stmt := top 58
abbrev s_need_bases : Stmt := top 61
abbrev s_family_of : Stmt := top 62
abbrev s_values_in : Stmt := top 63
abbrev s_mask_in : Stmt := top 64
abbrev s_need_checks : Stmt := top 70
abbrev s_check_all : Stmt := top 75
abbrev s_has_form : Stmt := top 79
abbrev s_wrong_form : Stmt := top 80
abbrev s_with_member : Stmt := top 82
abbrev s_given_value : Stmt := top 88
abbrev s_fits : Stmt := top 89
abbrev s_carried_out : Stmt := top 90
abbrev s_all_carried_out : Stmt := top 91
abbrev s_first_rows : Stmt := top 93
abbrev s_names_of : Stmt := top 94
abbrev s_place_of : Stmt := top 95
abbrev s_singles_of : Stmt := top 96
abbrev s_is_one_of : Stmt := top 107
abbrev s_need_form : Stmt := top 108
abbrev s_need_options : Stmt := top 109
abbrev s_boundary_of : Stmt := top 110
abbrev s__law_cell : Stmt := top 113
abbrev s__law_rows : Stmt := top 114
abbrev s__law_flag : Stmt := top 115
abbrev s__law_mask : Stmt := top 116
abbrev s__law_number : Stmt := top 117
abbrev s__law_two_right : Stmt := top 118
abbrev s__law_three_right : Stmt := top 119
abbrev s__law_parts_right : Stmt := top 120
abbrev s_law : Stmt := top 121
abbrev s_value_of_name_members : Stmt := top 98
abbrev s_Record_init : Stmt := inClass (top 81) 0
abbrev s_Member_init : Stmt := inClass (top 101) 0
abbrev s_FlagMember_init : Stmt := inClass (top 101) 0
abbrev s_FlagMember_eq : Stmt := inClass (top 101) 9
abbrev s_FlagMember_joined_with : Stmt := inClass (top 102) 0
abbrev s_FlagMember_is_beside : Stmt := inClass (top 102) 1
abbrev s_FlagMember_need_beside : Stmt := inClass (top 102) 2
abbrev s_FlagMember_or : Stmt := inClass (top 102) 3
abbrev s_FlagMember_and : Stmt := inClass (top 102) 4
abbrev s_FlagMember_xor : Stmt := inClass (top 102) 5
abbrev s_FlagMember_sub : Stmt := inClass (top 102) 6
abbrev s_FlagMember_lt : Stmt := inClass (top 102) 8
abbrev s_FlagMember_le : Stmt := inClass (top 102) 9
abbrev s_FlagMember_contains : Stmt := inClass (top 102) 10
abbrev s_FlagMember_len : Stmt := inClass (top 102) 11
abbrev s_FlagMember_bool : Stmt := inClass (top 102) 12
abbrev s_FlagMember_with_bit : Stmt := inClass (top 102) 16
abbrev s_FlagMember_without : Stmt := inClass (top 102) 17
abbrev s_KindRoot_init : Stmt := inClass (top 56) 0
abbrev s_Kind_member_with : Stmt := inClass (top 111) 18
abbrev s_Kind_has_member : Stmt := inClass (top 111) 19
abbrev s_Kind_has_value : Stmt := inClass (top 111) 20
abbrev s_Kind_looked_up : Stmt := inClass (top 111) 22
abbrev s_Kind_call : Stmt := inClass (top 111) 23
abbrev s_Kind_getitem : Stmt := inClass (top 111) 25
abbrev s_FlagMember_rest : Stmt := inClass (top 102) 14
abbrev s_Kind_mask : Stmt := inClass (top 111) 13
abbrev s_Kind_all_names : Stmt := inClass (top 111) 16
abbrev s_Kind_init : Stmt := inClass (top 111) 2
abbrev C_Record (K : PySem.W.Frag) : Addr := He.ga K "Record"
abbrev C_Member (K : PySem.W.Frag) : Addr := He.ga K "Member"
abbrev C_FlagMember (K : PySem.W.Frag) : Addr := He.ga K "FlagMember"
abbrev C_Kind (K : PySem.W.Frag) : Addr := He.ga K "Kind"
abbrev C_KindRoot (K : PySem.W.Frag) : Addr := He.ga K "KindRoot"
abbrev FnP (K : PySem.W.Frag) (x q : Str) (st : Stmt) (dvs : List V) (f : Addr) (fd : FuncData) : Prop := FunD K x q (defArgs st) (defBody st) (defScope st) dvs [] f fd
/-- getters -/
def getAd (K : PySem.W.Frag) (C m : Str) : Addr := match PySem.W.recIn K (He.ma K (He.ga K C) m) "property" with
  | some (.ref g :: _) => g
  | _ => 0
/-- a tuple of the written part -/
def TupK (K : PySem.W.Frag) (a : Addr) (xs : List V) : Prop := ∃ (o : Obj) (its : Array Value) (n : Nat), K.lookup a = some o ∧ o.cls = .type "tuple" ∧ o.data = .seq its n ∧ its.size ≤ sizeLine ∧ Vals xs its.toList
theorem TupK.at {K : PySem.W.Frag} {a : Addr} {xs : List V} {H : Hp} (h : TupK K a xs) : SqT K H a xs := Or.inr h
/-- the defaults of Record.__init__ -/
structure RecDf (K : PySem.W.Frag) (dvs : List V) : Prop where
  ex : ∃ a b c : Addr, dvs = [.ref a, .non, .non, .non, .ref b, .ref c] ∧ TupK K a [] ∧ TupK K b [] ∧ TupK K c []

/-- what the top leaves -/
structure Tx (P : Program) (w : World) (K : PySem.W.Frag) (mg : Str → Option Value) : Prop where
  b_len : mg "len" = none
  b_all : mg "all" = none
  b_any : mg "any" = none
  b_sum : mg "sum" = none
  b_min : mg "min" = none
  b_isinstance : mg "isinstance" = none
  b_tuple : mg "tuple" = none
  b_list : mg "list" = none
  b_str : mg "str" = none
  b_bool : mg "bool" = none
  b_int : mg "int" = none
  b_range : mg "range" = none
  b_enumerate : mg "enumerate" = none
  b_super : mg "super" = none
  i_MAX_BITS : ∃ t, mg "MAX_BITS" = some (.int 40 t)
  i_MOST_SIGNS : ∃ t, mg "MOST_SIGNS" = some (.int 20 t)
  i_LONGEST : ∃ t, mg "LONGEST" = some (.int 40 t)
  i_WIDEST : ∃ t, mg "WIDEST" = some (.int 6 t)
  i_DEEPEST : ∃ t, mg "DEEPEST" = some (.int 3 t)
  i_GREATEST : ∃ t, mg "GREATEST" = some (.int 1000000000000000000000000000000 t)
  i_MOST_BASES : ∃ t, mg "MOST_BASES" = some (.int 4 t)
  i_MOST_ENTRIES : ∃ t, mg "MOST_ENTRIES" = some (.int 60 t)
  i_MOST_START : ∃ t, mg "MOST_START" = some (.int 1000000 t)
  s_LETTERS : ∃ t, mg "LETTERS" = some (.str "ABCDEFGHIJKLMNOPQRSTUVWXYZabcdefghijklmnopqrstuvwxyz_" t)
  s_DIGITS : ∃ t, mg "DIGITS" = some (.str "0123456789" t)
  t_FAMILIES : mg "FAMILIES" = some (.ref (He.ga K "FAMILIES"))
  u_FAMILIES : TupK K (He.ga K "FAMILIES") [.str "any", .str "integer", .str "text", .str "flag"]
  t_BOUNDARIES : mg "BOUNDARIES" = some (.ref (He.ga K "BOUNDARIES"))
  u_BOUNDARIES : TupK K (He.ga K "BOUNDARIES") [.str "strict", .str "conform", .str "eject", .str "keep"]
  m_SIZES : mg "SIZES" = some (.ref (He.ga K "SIZES"))
  sizes : ∃ es n, KDict K w (He.ga K "SIZES") es n
  sizeSet : ∃ t, PySem.W.nsIn K (He.ga K "SIZES") "set" = some (some (.int 3 t))
  c_Record : Cls K (C_Record K)
  m_Record : mg "Record" = some (.ref (C_Record K))
  k_Record : PySem.W.keepIn K (.ref (C_Record K)) = true
  c_Member : Cls K (C_Member K)
  m_Member : mg "Member" = some (.ref (C_Member K))
  k_Member : PySem.W.keepIn K (.ref (C_Member K)) = true
  c_FlagMember : Cls K (C_FlagMember K)
  m_FlagMember : mg "FlagMember" = some (.ref (C_FlagMember K))
  k_FlagMember : PySem.W.keepIn K (.ref (C_FlagMember K)) = true
  c_Kind : Cls K (C_Kind K)
  m_Kind : mg "Kind" = some (.ref (C_Kind K))
  k_Kind : PySem.W.keepIn K (.ref (C_Kind K)) = true
  m_KindRoot : mg "KindRoot" = some (.ref (C_KindRoot K))
  k_KindRoot : PySem.W.keepIn K (.ref (C_KindRoot K)) = true
  mk_Record : Mk K (C_Record K) (He.ma K (C_Record K) "__init__")
  mk_FlagMember : Mk K (C_FlagMember K) (He.ma K (C_FlagMember K) "__init__")
  mk_Kind : Mk K (C_Kind K) (He.ma K (C_Kind K) "__init__")
  na_FlagMember_own_kind : NoAttr K (C_FlagMember K) "own_kind"
  na_FlagMember_own_value : NoAttr K (C_FlagMember K) "own_value"
  na_FlagMember_own_name : NoAttr K (C_FlagMember K) "own_name"
  na_FlagMember_own_aliases : NoAttr K (C_FlagMember K) "own_aliases"
  na_FlagMember_own_place : NoAttr K (C_FlagMember K) "own_place"
  na_Kind_own_name : NoAttr K (C_Kind K) "own_name"
  na_Kind_own_family : NoAttr K (C_Kind K) "own_family"
  na_Kind_own_bases : NoAttr K (C_Kind K) "own_bases"
  na_Kind_own_boundary : NoAttr K (C_Kind K) "own_boundary"
  na_Kind_own_start : NoAttr K (C_Kind K) "own_start"
  na_Kind_own_line : NoAttr K (C_Kind K) "own_line"
  na_Kind_own_record : NoAttr K (C_Kind K) "own_record"
  na_Record_own_rows : NoAttr K (C_Record K) "own_rows"
  na_Record_own_firsts : NoAttr K (C_Record K) "own_firsts"
  na_Record_own_attributes : NoAttr K (C_Record K) "own_attributes"
  na_Record_own_methods : NoAttr K (C_Record K) "own_methods"
  na_Record_own_rule : NoAttr K (C_Record K) "own_rule"
  na_Record_own_missing : NoAttr K (C_Record K) "own_missing"
  m_is_integer : mg "is_integer" = some (.ref (He.ga K "is_integer"))
  f_is_integer : ∃ fd, FnP K "is_integer" "is_integer" s_is_integer [] (He.ga K "is_integer") fd
  m_is_text : mg "is_text" = some (.ref (He.ga K "is_text"))
  f_is_text : ∃ fd, FnP K "is_text" "is_text" s_is_text [] (He.ga K "is_text") fd
  m_is_name : mg "is_name" = some (.ref (He.ga K "is_name"))
  f_is_name : ∃ fd, FnP K "is_name" "is_name" s_is_name [] (He.ga K "is_name") fd
  m_is_reserved : mg "is_reserved" = some (.ref (He.ga K "is_reserved"))
  f_is_reserved : ∃ fd, FnP K "is_reserved" "is_reserved" s_is_reserved [] (He.ga K "is_reserved") fd
  m_is_nested : mg "is_nested" = some (.ref (He.ga K "is_nested"))
  f_is_nested : ∃ fd, FnP K "is_nested" "is_nested" s_is_nested [] (He.ga K "is_nested") fd
  m_is_value : mg "is_value" = some (.ref (He.ga K "is_value"))
  f_is_value : ∃ fd, FnP K "is_value" "is_value" s_is_value [] (He.ga K "is_value") fd
  m_is_flag_value : mg "is_flag_value" = some (.ref (He.ga K "is_flag_value"))
  f_is_flag_value : ∃ fd, FnP K "is_flag_value" "is_flag_value" s_is_flag_value [] (He.ga K "is_flag_value") fd
  m_need_flag_values : mg "need_flag_values" = some (.ref (He.ga K "need_flag_values"))
  f_need_flag_values : ∃ fd, FnP K "need_flag_values" "need_flag_values" s_need_flag_values [] (He.ga K "need_flag_values") fd
  m_bits_of : mg "bits_of" = some (.ref (He.ga K "bits_of"))
  f_bits_of : ∃ fd, FnP K "bits_of" "bits_of" s_bits_of [] (He.ga K "bits_of") fd
  m_split : mg "split" = some (.ref (He.ga K "split"))
  f_split : ∃ fd, FnP K "split" "split" s_split [] (He.ga K "split") fd
  m_kept_reading : mg "kept_reading" = some (.ref (He.ga K "kept_reading"))
  f_kept_reading : ∃ fd, FnP K "kept_reading" "kept_reading" s_kept_reading [] (He.ga K "kept_reading") fd
  m_reading : mg "reading" = some (.ref (He.ga K "reading"))
  f_reading : ∃ fd, FnP K "reading" "reading" s_reading [] (He.ga K "reading") fd
  m_line_behind : mg "line_behind" = some (.ref (He.ga K "line_behind"))
  f_line_behind : ∃ fd, FnP K "line_behind" "line_behind" s_line_behind [] (He.ga K "line_behind") fd
  m_need_bases : mg "need_bases" = some (.ref (He.ga K "need_bases"))
  f_need_bases : ∃ fd, FnP K "need_bases" "need_bases" s_need_bases [] (He.ga K "need_bases") fd
  m_family_of : mg "family_of" = some (.ref (He.ga K "family_of"))
  f_family_of : ∃ fd, FnP K "family_of" "family_of" s_family_of [] (He.ga K "family_of") fd
  m_values_in : mg "values_in" = some (.ref (He.ga K "values_in"))
  f_values_in : ∃ fd, FnP K "values_in" "values_in" s_values_in [] (He.ga K "values_in") fd
  m_mask_in : mg "mask_in" = some (.ref (He.ga K "mask_in"))
  f_mask_in : ∃ fd, FnP K "mask_in" "mask_in" s_mask_in [] (He.ga K "mask_in") fd
  m_need_checks : mg "need_checks" = some (.ref (He.ga K "need_checks"))
  f_need_checks : ∃ fd, FnP K "need_checks" "need_checks" s_need_checks [] (He.ga K "need_checks") fd
  m_check_all : mg "check_all" = some (.ref (He.ga K "check_all"))
  f_check_all : ∃ fd, FnP K "check_all" "check_all" s_check_all [] (He.ga K "check_all") fd
  m_has_form : mg "has_form" = some (.ref (He.ga K "has_form"))
  f_has_form : ∃ fd, FnP K "has_form" "has_form" s_has_form [] (He.ga K "has_form") fd
  m_wrong_form : mg "wrong_form" = some (.ref (He.ga K "wrong_form"))
  f_wrong_form : ∃ fd, FnP K "wrong_form" "wrong_form" s_wrong_form [] (He.ga K "wrong_form") fd
  m_with_member : mg "with_member" = some (.ref (He.ga K "with_member"))
  f_with_member : ∃ fd, FnP K "with_member" "with_member" s_with_member [] (He.ga K "with_member") fd
  m_given_value : mg "given_value" = some (.ref (He.ga K "given_value"))
  f_given_value : ∃ fd, FnP K "given_value" "given_value" s_given_value [] (He.ga K "given_value") fd
  m_fits : mg "fits" = some (.ref (He.ga K "fits"))
  f_fits : ∃ fd, FnP K "fits" "fits" s_fits [] (He.ga K "fits") fd
  m_carried_out : mg "carried_out" = some (.ref (He.ga K "carried_out"))
  f_carried_out : ∃ fd, FnP K "carried_out" "carried_out" s_carried_out [] (He.ga K "carried_out") fd
  m_all_carried_out : mg "all_carried_out" = some (.ref (He.ga K "all_carried_out"))
  f_all_carried_out : ∃ fd, FnP K "all_carried_out" "all_carried_out" s_all_carried_out [] (He.ga K "all_carried_out") fd
  m_first_rows : mg "first_rows" = some (.ref (He.ga K "first_rows"))
  f_first_rows : ∃ fd, FnP K "first_rows" "first_rows" s_first_rows [] (He.ga K "first_rows") fd
  m_names_of : mg "names_of" = some (.ref (He.ga K "names_of"))
  f_names_of : ∃ fd, FnP K "names_of" "names_of" s_names_of [] (He.ga K "names_of") fd
  m_place_of : mg "place_of" = some (.ref (He.ga K "place_of"))
  f_place_of : ∃ fd, FnP K "place_of" "place_of" s_place_of [] (He.ga K "place_of") fd
  m_singles_of : mg "singles_of" = some (.ref (He.ga K "singles_of"))
  f_singles_of : ∃ fd, FnP K "singles_of" "singles_of" s_singles_of [] (He.ga K "singles_of") fd
  m_is_one_of : mg "is_one_of" = some (.ref (He.ga K "is_one_of"))
  f_is_one_of : ∃ fd, FnP K "is_one_of" "is_one_of" s_is_one_of [] (He.ga K "is_one_of") fd
  m_need_form : mg "need_form" = some (.ref (He.ga K "need_form"))
  f_need_form : ∃ fd, FnP K "need_form" "need_form" s_need_form [] (He.ga K "need_form") fd
  m_need_options : mg "need_options" = some (.ref (He.ga K "need_options"))
  f_need_options : ∃ fd, FnP K "need_options" "need_options" s_need_options [] (He.ga K "need_options") fd
  m_boundary_of : mg "boundary_of" = some (.ref (He.ga K "boundary_of"))
  f_boundary_of : ∃ fd, FnP K "boundary_of" "boundary_of" s_boundary_of [] (He.ga K "boundary_of") fd
  m__law_cell : mg "_law_cell" = some (.ref (He.ga K "_law_cell"))
  f__law_cell : ∃ fd, FnP K "_law_cell" "_law_cell" s__law_cell [] (He.ga K "_law_cell") fd
  m__law_rows : mg "_law_rows" = some (.ref (He.ga K "_law_rows"))
  f__law_rows : ∃ fd, FnP K "_law_rows" "_law_rows" s__law_rows [] (He.ga K "_law_rows") fd
  m__law_flag : mg "_law_flag" = some (.ref (He.ga K "_law_flag"))
  f__law_flag : ∃ fd, FnP K "_law_flag" "_law_flag" s__law_flag [] (He.ga K "_law_flag") fd
  m__law_mask : mg "_law_mask" = some (.ref (He.ga K "_law_mask"))
  f__law_mask : ∃ fd, FnP K "_law_mask" "_law_mask" s__law_mask [] (He.ga K "_law_mask") fd
  m__law_number : mg "_law_number" = some (.ref (He.ga K "_law_number"))
  f__law_number : ∃ fd, FnP K "_law_number" "_law_number" s__law_number [] (He.ga K "_law_number") fd
  m__law_two_right : mg "_law_two_right" = some (.ref (He.ga K "_law_two_right"))
  f__law_two_right : ∃ fd, FnP K "_law_two_right" "_law_two_right" s__law_two_right [] (He.ga K "_law_two_right") fd
  m__law_three_right : mg "_law_three_right" = some (.ref (He.ga K "_law_three_right"))
  f__law_three_right : ∃ fd, FnP K "_law_three_right" "_law_three_right" s__law_three_right [] (He.ga K "_law_three_right") fd
  m__law_parts_right : mg "_law_parts_right" = some (.ref (He.ga K "_law_parts_right"))
  f__law_parts_right : ∃ fd, FnP K "_law_parts_right" "_law_parts_right" s__law_parts_right [] (He.ga K "_law_parts_right") fd
  m_law : mg "law" = some (.ref (He.ga K "law"))
  f_law : ∃ fd, FnP K "law" "law" s_law [] (He.ga K "law") fd
  m_value_of_name_members : mg "value_of_name_members" = some (.ref (He.ga K "value_of_name_members"))
  f_value_of_name_members : ∃ fd, FnP K "value_of_name" "value_of_name" s_value_of_name_members [] (He.ga K "value_of_name_members") fd
  f_Record_init : ∃ dvs fd, RecDf K dvs ∧ FnP K "__init__" "Record.__init__" s_Record_init dvs (He.ma K (C_Record K) "__init__") fd
  f_FlagMember_init : ∃ fd, FnP K "__init__" "Member.__init__" s_FlagMember_init [] (He.ma K (C_FlagMember K) "__init__") fd
  mt_FlagMember_eq : Meth K (C_FlagMember K) "__eq__" (He.ma K (C_FlagMember K) "__eq__")
  f_FlagMember_eq : ∃ fd, FnP K "__eq__" "Member.__eq__" s_FlagMember_eq [] (He.ma K (C_FlagMember K) "__eq__") fd
  mt_FlagMember_joined_with : Meth K (C_FlagMember K) "joined_with" (He.ma K (C_FlagMember K) "joined_with")
  f_FlagMember_joined_with : ∃ fd, FnP K "joined_with" "FlagMember.joined_with" s_FlagMember_joined_with [] (He.ma K (C_FlagMember K) "joined_with") fd
  mt_FlagMember_is_beside : Meth K (C_FlagMember K) "is_beside" (He.ma K (C_FlagMember K) "is_beside")
  f_FlagMember_is_beside : ∃ fd, FnP K "is_beside" "FlagMember.is_beside" s_FlagMember_is_beside [] (He.ma K (C_FlagMember K) "is_beside") fd
  mt_FlagMember_need_beside : Meth K (C_FlagMember K) "need_beside" (He.ma K (C_FlagMember K) "need_beside")
  f_FlagMember_need_beside : ∃ fd, FnP K "need_beside" "FlagMember.need_beside" s_FlagMember_need_beside [] (He.ma K (C_FlagMember K) "need_beside") fd
  mt_FlagMember_or : Meth K (C_FlagMember K) "__or__" (He.ma K (C_FlagMember K) "__or__")
  f_FlagMember_or : ∃ fd, FnP K "__or__" "FlagMember.__or__" s_FlagMember_or [] (He.ma K (C_FlagMember K) "__or__") fd
  mt_FlagMember_and : Meth K (C_FlagMember K) "__and__" (He.ma K (C_FlagMember K) "__and__")
  f_FlagMember_and : ∃ fd, FnP K "__and__" "FlagMember.__and__" s_FlagMember_and [] (He.ma K (C_FlagMember K) "__and__") fd
  mt_FlagMember_xor : Meth K (C_FlagMember K) "__xor__" (He.ma K (C_FlagMember K) "__xor__")
  f_FlagMember_xor : ∃ fd, FnP K "__xor__" "FlagMember.__xor__" s_FlagMember_xor [] (He.ma K (C_FlagMember K) "__xor__") fd
  mt_FlagMember_sub : Meth K (C_FlagMember K) "__sub__" (He.ma K (C_FlagMember K) "__sub__")
  f_FlagMember_sub : ∃ fd, FnP K "__sub__" "FlagMember.__sub__" s_FlagMember_sub [] (He.ma K (C_FlagMember K) "__sub__") fd
  mt_FlagMember_lt : Meth K (C_FlagMember K) "__lt__" (He.ma K (C_FlagMember K) "__lt__")
  f_FlagMember_lt : ∃ fd, FnP K "__lt__" "FlagMember.__lt__" s_FlagMember_lt [] (He.ma K (C_FlagMember K) "__lt__") fd
  mt_FlagMember_le : Meth K (C_FlagMember K) "__le__" (He.ma K (C_FlagMember K) "__le__")
  f_FlagMember_le : ∃ fd, FnP K "__le__" "FlagMember.__le__" s_FlagMember_le [] (He.ma K (C_FlagMember K) "__le__") fd
  mt_FlagMember_contains : Meth K (C_FlagMember K) "__contains__" (He.ma K (C_FlagMember K) "__contains__")
  f_FlagMember_contains : ∃ fd, FnP K "__contains__" "FlagMember.__contains__" s_FlagMember_contains [] (He.ma K (C_FlagMember K) "__contains__") fd
  mt_FlagMember_len : Meth K (C_FlagMember K) "__len__" (He.ma K (C_FlagMember K) "__len__")
  f_FlagMember_len : ∃ fd, FnP K "__len__" "FlagMember.__len__" s_FlagMember_len [] (He.ma K (C_FlagMember K) "__len__") fd
  mt_FlagMember_bool : Meth K (C_FlagMember K) "__bool__" (He.ma K (C_FlagMember K) "__bool__")
  f_FlagMember_bool : ∃ fd, FnP K "__bool__" "FlagMember.__bool__" s_FlagMember_bool [] (He.ma K (C_FlagMember K) "__bool__") fd
  mt_FlagMember_with_bit : Meth K (C_FlagMember K) "with_bit" (He.ma K (C_FlagMember K) "with_bit")
  f_FlagMember_with_bit : ∃ fd, FnP K "with_bit" "FlagMember.with_bit" s_FlagMember_with_bit [] (He.ma K (C_FlagMember K) "with_bit") fd
  mt_FlagMember_without : Meth K (C_FlagMember K) "without" (He.ma K (C_FlagMember K) "without")
  f_FlagMember_without : ∃ fd, FnP K "without" "FlagMember.without" s_FlagMember_without [] (He.ma K (C_FlagMember K) "without") fd
  f_KindRoot_init : ∃ fd, FnP K "__init__" "KindRoot.__init__" s_KindRoot_init [] (He.ma K (C_KindRoot K) "__init__") fd
  mt_Kind_member_with : Meth K (C_Kind K) "member_with" (He.ma K (C_Kind K) "member_with")
  f_Kind_member_with : ∃ fd, FnP K "member_with" "Kind.member_with" s_Kind_member_with [] (He.ma K (C_Kind K) "member_with") fd
  mt_Kind_has_member : Meth K (C_Kind K) "has_member" (He.ma K (C_Kind K) "has_member")
  f_Kind_has_member : ∃ fd, FnP K "has_member" "Kind.has_member" s_Kind_has_member [] (He.ma K (C_Kind K) "has_member") fd
  mt_Kind_has_value : Meth K (C_Kind K) "has_value" (He.ma K (C_Kind K) "has_value")
  f_Kind_has_value : ∃ fd, FnP K "has_value" "Kind.has_value" s_Kind_has_value [] (He.ma K (C_Kind K) "has_value") fd
  mt_Kind_looked_up : Meth K (C_Kind K) "looked_up" (He.ma K (C_Kind K) "looked_up")
  f_Kind_looked_up : ∃ fd, FnP K "looked_up" "Kind.looked_up" s_Kind_looked_up [] (He.ma K (C_Kind K) "looked_up") fd
  mt_Kind_call : Meth K (C_Kind K) "__call__" (He.ma K (C_Kind K) "__call__")
  f_Kind_call : ∃ fd, FnP K "__call__" "Kind.__call__" s_Kind_call [] (He.ma K (C_Kind K) "__call__") fd
  mt_Kind_getitem : Meth K (C_Kind K) "__getitem__" (He.ma K (C_Kind K) "__getitem__")
  f_Kind_getitem : ∃ fd, FnP K "__getitem__" "Kind.__getitem__" s_Kind_getitem [] (He.ma K (C_Kind K) "__getitem__") fd
  pr_FlagMember_rest : PropOf K (C_FlagMember K) "rest" (He.ma K (C_FlagMember K) "rest") (getAd K "FlagMember" "rest")
  f_FlagMember_rest : ∃ fd, FnP K "rest" "FlagMember.rest" s_FlagMember_rest [] (getAd K "FlagMember" "rest") fd
  pr_Kind_mask : PropOf K (C_Kind K) "mask" (He.ma K (C_Kind K) "mask") (getAd K "Kind" "mask")
  f_Kind_mask : ∃ fd, FnP K "mask" "Kind.mask" s_Kind_mask [] (getAd K "Kind" "mask") fd
  pr_Kind_all_names : PropOf K (C_Kind K) "all_names" (He.ma K (C_Kind K) "all_names") (getAd K "Kind" "all_names")
  f_Kind_all_names : ∃ fd, FnP K "all_names" "Kind.all_names" s_Kind_all_names [] (getAd K "Kind" "all_names") fd
  f_Kind_init : ∃ cc b0 b1 c1 fd, TupK K b1 [] ∧ TupK K c1 [] ∧ FunS K "__init__" "Kind.__init__" s_Kind_init [.ref b0] [("bases", .ref b1), ("family", .non), ("boundary", .non), ("start", .non), ("checks", .ref c1)] (He.ma K (C_Kind K) "__init__") cc (C_Kind K) P.main.file fd
  sup_cls : ∃ cd, PySem.W.clsIn K (C_Kind K) = some cd
  sup_sub : PySem.W.mroIn K (C_Kind K) (.ref (C_Kind K)) = some true
  sup_opq : PySem.W.nsIn K cStatics "thirdparty.any" = some none
  sup_find : PySem.W.ks_superIn K (C_Kind K) (C_Kind K) "__init__" = some (some (.ref (He.ma K (C_KindRoot K) "__init__")))
  sup_fi : PySem.W.fnIn K (He.ma K (C_KindRoot K) "__init__") = true
  sup_ty : PySem.W.typeIn K (.ref (He.ma K (C_KindRoot K) "__init__")) = some (.type "function")
  sup_top : (P.main.scope.names.lookup ("super" : Str)).isSome = false
  fm_self : PySem.W.selfFirst K (C_FlagMember K) = true
  fm_obj : PySem.W.mroIn K (C_FlagMember K) (.type "object") = some true
  fm_gt : PySem.W.findIn K (.ref (C_FlagMember K)) "__gt__" = some (some (.builtin "object.__gt__"))
  fm_ge : PySem.W.findIn K (.ref (C_FlagMember K)) "__ge__" = some (some (.builtin "object.__ge__"))
  fm_ne : PySem.W.findIn K (.ref (C_FlagMember K)) "__ne__" = some (some (.builtin "object.__ne__"))
  k_obj : PySem.W.mroIn K (C_Kind K) (.type "object") = some true
  k_eq : PySem.W.findIn K (.ref (C_Kind K)) "__eq__" = some (some (.builtin "object.__eq__"))
  k_call : StX.CallO K (C_Kind K) (He.ma K (C_Kind K) "__call__")
  k_getfn : PySem.W.fnIn K (He.ma K (C_Kind K) "__getitem__") = true
  kit_fm_m : PySem.W.kitOne K (.ref (C_FlagMember K)) (.ref (C_Member K)) = some true
  kit_fm_f : PySem.W.kitOne K (.ref (C_FlagMember K)) (.ref (C_FlagMember K)) = some true
  fm_class : PySem.W.findIn K (.ref (C_FlagMember K)) "__class__" = some (some (.builtin "object.__class__"))
  oc_get : PySem.W.specialIn K (.builtin "object.__class__") "__get__" = some (some (.builtin "getset_descriptor.__get__"))
  oc_tak : PySem.W.takesIn K (.builtin "object.__class__") = some true
  kit_int_m : PySem.W.kitOne K (.type "int") (.ref (C_Member K)) = some false
/-- a def of the module that keeps a promise -/
structure Fn (P : Program) (w : World) (K : PySem.W.Frag) (mg : Str → Option Value) (base : Heap) (k : Nat) (x : Str) (ps : List Str) (sp : Sp) (fd : FuncData) : Prop where
  ok : FnOk P w K mg base CX0 k (He.ga K x) fd ps sp
  b : Binds K fd ps []
  kp : PySem.W.keepIn K (.ref (He.ga K x)) = true
  m : mg x = some (.ref (He.ga K x))
/-- a method -/
structure Me (P : Program) (w : World) (K : PySem.W.Frag) (mg : Str → Option Value) (base : Heap) (k : Nat) (C m : Str) (ps : List Str) (sp : Sp) (fd : FuncData) : Prop where
  ok : FnOk P w K mg base CX0 k (He.ma K (He.ga K C) m) fd ps sp
  b : Binds K fd ps []
  mt : Meth K (He.ga K C) m (He.ma K (He.ga K C) m)
end EC
end
section
set_option Elab.async false
set_option linter.all false
set_option maxRecDepth 100000
set_option maxHeartbeats 2000000
/-! B0p: the generator method, as the top leaves it -/
namespace EC
open PySem PySem.Spec PyProof.Rows L2
abbrev s_FlagMember_parts : Stmt := inClass (top 102) 15
/-- what the top leaves of it -/
structure Tp (K : PySem.W.Frag) : Prop where
  f : ∃ fd, FnP K "parts" "FlagMember.parts" s_FlagMember_parts [] (He.ma K (C_FlagMember K) "parts") fd
  mt : Meth K (C_FlagMember K) "parts" (He.ma K (C_FlagMember K) "parts")
end EC
end
section
set_option Elab.async false
set_option linter.all false
set_option maxRecDepth 100000
noncomputable section
/-! the top run in two parts, the state amid written out -/
namespace EcHead
open PySem PySem.W PySem.Calls PyProof.Rows HandSHeadRun
section
variable (st : SharedT → Thread → Option (SharedT × Thread)) (n0 : Nat) (ann : Option Value)
/-- so many steps of the top -/
def goS : Nat → SharedT → Thread → Option (SharedT × Thread)
  | 0, s, t => some (s, t)
  | m + 1, s, t => match through t with
    | true => none
    | false => match stepOk n0 ann t with
      | false => none
      | true => match st s t with
        | some (s', t') => frS s' fun s' => goS m s' t'
        | none => none
/-- a run of statements, to its end -/
def segF : Nat → SharedT → Thread → Option (Flow × SharedT × Code × Pos)
  | 0, _, _ => none
  | m + 1, s, t => match endAt 1 t with
    | some f => some (f, s, t.code, t.pos)
    | none => match stepOk n0 ann t with
      | false => none
      | true => match st s t with
        | some (s', t') => frS s' fun s' => segF m s' t'
        | none => none
end
variable {tb : String → Option Builtin} {p : Program} {w : World} {n0 : Nat} {ann : Option Value}
theorem goS_ok : ∀ {m : Nat} {s s' : SharedT} {t t' : Thread}, goS (stepT (denote tb) p w) n0 ann m s t = some (s', t') → topGo tb p w n0 ann m s.abs t = some (s'.abs, t')
  | 0, _, _, _, _, h => by cases h; rfl
  | m + 1, s, s', t, t', h => by
    unfold goS at h
    unfold topGo
    cases ht : through t with
    | true =>
      rw [ht] at h
      cases h
    | false =>
      rw [ht] at h
      cases hk : stepOk n0 ann t with
      | false =>
        rw [hk] at h
        cases h
      | true =>
        rw [hk] at h
        cases hs : stepT (denote tb) p w s t with
        | none =>
          rw [hs] at h
          cases h
        | some r =>
          obtain ⟨s2, t2⟩ := r
          rw [hs] at h
          have h3 : (frS s2 fun s' => goS (stepT (denote tb) p w) n0 ann m s' t2) = some (s', t') := h
          rw [frS_eq] at h3
          rw [stepT_spec hs]
          exact goS_ok h3
theorem segF_ok : ∀ {m : Nat} {s s' : SharedT} {t : Thread} {f : Flow} {c : Code} {q : Pos}, segF (stepT (denote tb) p w) n0 ann m s t = some (f, s', c, q) → segRun tb p w n0 ann 1 m s.abs t = some (f, s'.abs, c, q)
  | 0, _, _, _, _, _, _, h => by cases h
  | m + 1, s, s', t, f, c, q, h => by
    unfold segF at h
    unfold segRun
    cases he : endAt 1 t with
    | some x =>
      rw [he] at h
      cases h
      rfl
    | none =>
      rw [he] at h
      cases hk : stepOk n0 ann t with
      | false =>
        rw [hk] at h
        cases h
      | true =>
        rw [hk] at h
        cases hs : stepT (denote tb) p w s t with
        | none =>
          rw [hs] at h
          cases h
        | some r =>
          obtain ⟨s2, t2⟩ := r
          rw [hs] at h
          have h3 : (frS s2 fun s' => segF (stepT (denote tb) p w) n0 ann m s' t2) = some (f, s', c, q) := h
          rw [frS_eq] at h3
          rw [stepT_spec hs]
          exact segF_ok h3

/-! ### the twins -/
def execsQ : List Stmt → Env → Sem Flow := PySem.W.Fast.tw12563942051412417395
def leavingQ : Env → Value → Sem Unit := PySem.W.Fast.tw9442747609961115081
theorem execsQ_eq : @PySem.execs = execsQ := PySem.W.Fast.te12563942051412417395
theorem leavingQ_eq : @PySem.leaving = leavingQ := PySem.W.Fast.te9442747609961115081
def restQ (rest : List Stmt) (env : Env) (c : Code) (p : Pos) (B : List Frame) : Thread := ⟨(execsQ rest env).wrap doneF (fun e => ((leavingQ env e).bind fun _ => (.raise e : Sem Flow)).wrap doneF .raise id id) id id, c, p, B⟩
def piecesQ (l : List Stmt) (env : Env) (c : Code) (p : Pos) (B : List Frame) : Thread := ⟨(execsQ l env).wrap doneF deadEnd id id, c, p, B⟩
theorem restQ_eq (rest : List Stmt) (env : Env) (c : Code) (p : Pos) (B : List Frame) : restOf rest env c p B = restQ rest env c p B := by
  unfold restOf restQ
  rw [← execsQ_eq, ← leavingQ_eq]
theorem piecesQ_eq (rest : List Stmt) (env : Env) (c : Code) (p : Pos) (B : List Frame) : piecesOf rest env c p B = piecesQ rest env c p B := by
  unfold piecesQ
  rw [← execsQ_eq]
/-- the env of the top -/
def topEnv (p : Program) (code frame : Addr) : Env := { scope := p.main.scope, locals := mainNs, globals := mainNs, cells := [], code := .ref code, frame := some frame }
/-- a tree's state, of the boot's life -/
def atW (T : Params → PySem.W.BT) (n toks : Nat) (w : World) (os : OsState) : SharedT := ⟨T w.params, n, (boot_heap w.params).life, #[], boot_drawn, toks, os⟩
/-- the first part -/
structure Part1 (p : Program) (env : Env) (k n0 nA nB kA kB mA mB : Nat) (ann : Option Value) (TA TB : Params → PySem.W.BT) (qA qB q0 : Pos) (w : World) : Prop where
  size : (boot_heap w.params).objs.size = n0
  annW : bootAnn w = ann
  body : behindTheImports p = p.main.body
  pre : ∀ os : OsState, (match putAll (boot_heap w.params).objs.toList .nil 0 with
    | some r => goS (stepQ (denQ tabQ) p w) n0 ann mA (bootT w os r) (topStub p)
    | none => none) = some (atW TA nA kA w os, ⟨denQ tabQ (.body p.main.body env), .body p.main.body env, qA, [topFrame q0]⟩)
  block : ∀ os : OsState, segF (stepQ (denQ tabQ) p w) n0 ann 1 (atW TA nA kA w os) (blockOf p.main.body env (.body p.main.body env) qA [topFrame q0]) = some (.next, atW TA nA kA w os, .body p.main.body env, qA)
  seg : ∀ os : OsState, segF (stepQ (denQ tabQ) p w) n0 ann mB (atW TA nA kA w os) (piecesQ (p.main.body.take k) env (.body p.main.body env) qA [topFrame q0]) = some (.next, atW TB nB kB w os, .body p.main.body env, qB)
theorem Part1.run {env : Env} {k nA nB kA kB mA mB : Nat} {TA TB : Params → PySem.W.BT} {qA qB q0 : Pos} (c : Part1 p env k n0 nA nB kA kB mA mB ann TA TB qA qB q0 w) {os : OsState} {N : Nat} {r : SharedT}
    (h : goF (stepQ (denQ tabQ) p w) n0 ann N (atW TB nB kB w os) (restQ (p.main.body.drop k) env (.body p.main.body env) qB [topFrame q0]) = some r) :
    topRun treeTable p w (boot_heap w.params).objs.size (bootAnn w) (mA + (1 + (mB + N))) ⟨boot_heap w.params, #[], boot_drawn, boot_toks, os⟩ (topStub p) = some r.abs := by
  have hpre := c.pre os
  have hblk := c.block os
  have hseg := c.seg os
  simp only [← stepQ_eq, ← denQ_eq, ← tabQ_eq, ← piecesQ_eq, ← restQ_eq] at hpre hblk hseg h
  cases e : putAll (boot_heap w.params).objs.toList .nil 0 with
  | none =>
    rw [e] at hpre
    cases hpre
  | some r0 =>
    obtain ⟨t, n⟩ := r0
    rw [e] at hpre
    have eh := putAll_heap e
    have eb : (bootT w os (t, n)).abs = ⟨boot_heap w.params, #[], boot_drawn, boot_toks, os⟩ := by
      show (⟨absHeap t n (boot_heap w.params).life, #[], boot_drawn, boot_toks, os⟩ : Shared) = _
      rw [eh]
    have h1 := goS_ok hpre
    rw [eb] at h1
    have h2 := segF_ok hblk
    have h3 := segF_ok hseg
    have h4 := goF_ok h
    rw [c.size, c.annW]
    refine go_top h1 (piece_block h2 ?_)
    have h5 := piece_app (rest := p.main.body.drop k) h3 h4
    rw [List.take_append_drop] at h5
    exact h5
/-- the run's equation of the second part -/
def RunEq2 (r : OpenRow) (q : Program) (H : Hook) (ob : SharedT → H.α) (M : Nat) (loose : List PySem.Str) (env : Env) (k n0 nB kB : Nat) (ann : Option Value) (TB : Params → PySem.W.BT) (qB q0 : Pos) (w : World) : Prop :=
  ∀ os : OsState, (goF (stepQ (denQ tabQ) r.prog w) n0 ann M (atW TB nB kB w os) (restQ (r.prog.main.body.drop k) env (.body r.prog.main.body env) qB [topFrame q0])).map (fun s => (looksF r.prog (boot_heap w.params) s.abs, seenQ q loose (importedModules r.prog.main.body) (fun s => xlAt q [] s && recOk r.toRowW.records s) s.abs, ob s)) = some (true, openGood q loose, H.val w)
theorem left_two {p q : Program} {loose : List Str} {Xt : Shared → Bool} {α : Type} {Yf : Shared → α} {Ya : World → α} {N M : Nat}
    (e : opening p = plainProg p.main.scope.names) (hN : Nat.ble 600 N = true) (f : ∀ s, fenceModules? p s = some s) (le : Nat.ble M N = true)
    (run : ∀ (w : World) (os : OsState), ∃ s : SharedT, topRun treeTable p w (boot_heap w.params).objs.size (bootAnn w) M ⟨boot_heap w.params, #[], boot_drawn, boot_toks, os⟩ (topStub p) = some s.abs ∧ (looksF p (boot_heap w.params) s.abs, openSeen q loose (importedModules p.main.body) Xt true s.abs, Yf s.abs) = (true, openGood q loose, Ya w)) :
    LeftO p q loose Xt Yf Ya N true := fun w => by
  obtain ⟨⟨h, gs, d, k, os⟩, a, a'⟩ := Option.map_eq_some_iff.mp (boot_open e hN f w)
  obtain ⟨rfl, rfl, rfl, rfl⟩ : h = boot_heap w.params ∧ gs = Array.mk [] ∧ d = boot_drawn ∧ k = boot_toks := by simpa using a'
  obtain ⟨s, hs, hv⟩ := run w os
  obtain ⟨l1, l2, l3⟩ : _ ∧ _ ∧ _ := by simpa only [Prod.mk.injEq] using hv
  have r := topRun_mono (N - M) _ _ _ _ hs
  rw [show M + (N - M) = N by have := Nat.le_of_ble_eq_true le; omega] at r
  have l1' : (staticsOk (importedModules p.main.body) (boot_heap w.params) s.abs.heap && namesBound p s.abs.heap && gensDone s.abs && laidKept (boot_heap w.params) s.abs.heap) = true := l1
  have t : topFrom treeTable p w N ⟨boot_heap w.params, Array.mk [], boot_drawn, boot_toks, os⟩ = some s.abs := by
    unfold topFrom
    dsimp only
    rw [boot_ns]
    show (topRun treeTable p w (boot_heap w.params).objs.size (bootAnn w) N ⟨boot_heap w.params, #[], boot_drawn, boot_toks, os⟩ (topStub p)).bind _ = _
    rw [r]
    show (match staticsOk (importedModules p.main.body) (boot_heap w.params) s.abs.heap && namesBound p s.abs.heap && gensDone s.abs && laidKept (boot_heap w.params) s.abs.heap with | true => some s.abs | false => none) = _
    rw [l1']
  unfold openEnds
  rw [a]
  show (topFrom treeTable p w N _).map _ = _
  rw [t]
  exact congrArg some (Prod.ext l2 l3)
/-- the head of a law, of two parts -/
theorem head_two {r : OpenRow} {q : Program} {H : Hook} {ob : SharedT → H.α} {M : Nat} {loose : List PySem.Str} {d : DefRec} {kwd : List (PySem.Str × PySem.Expr)} (ho : ∀ s : SharedT, ob s = H.obs s.abs)
    {env : Env} {k n0 nA nB kA kB mA mB : Nat} {ann : Option Value} {TA TB : Params → PySem.W.BT} {qA qB q0 : Pos}
    (e : opening r.prog = plainProg r.prog.main.scope.names) (f : ∀ s, fenceModules? r.prog s = some s) (one : ∀ w, Part1 r.prog env k n0 nA nB kA kB mA mB ann TA TB qA qB q0 w) (run : ∀ w, RunEq2 r q H ob M loose env k n0 nB kB ann TB qB q0 w)
    (hdef : defOf q r.name = some (d, kwd)) (hp : r.prog.theDef r.name = some (d.params, d.body, d.scope)) (hk : kwWritten? d.params.kwonlyargs d.params.kw_defaults = some kwd)
    (hwr : (!r.writes || r.records.isEmpty) = true) (k1 : r.wellSaid = true) (ok : (chainsOk q && opensWell r.prog && (frees r.toRowW && r.within.isEmpty)) = true) (hb : r.prog.bare) (hw : r.toRowW.promised)
    (call : WalkO q loose (XL q []) H.says r.toRowW d kwd fun f vs => PySem.call f vs) : r.Holds := by
  have left : LeftO r.prog q loose (fun s => xlAt q [] s && recOk r.toRowW.records s) H.obs H.val (mA + (1 + (mB + M)) + 600) true :=
    left_two (M := mA + (1 + (mB + M))) e (Nat.ble_eq_true_of_le (by omega)) f (Nat.ble_eq_true_of_le (by omega)) fun w os => by
      have z := run w os
      have eo : ob = fun s => H.obs s.abs := funext ho
      rw [eo] at z
      simp only [← seenQ_eq] at z
      obtain ⟨s, hs, hv⟩ := Option.map_eq_some_iff.mp z
      exact ⟨s, (one w).run hs, hv⟩
  exact holds_open (r := r) (q := q) (loose := loose) (XP := XL q []) (YP := H.says) (d := d) (kwd := kwd) left H.of H.keeps (fun s z => xl_of s (Bool.and_eq_true_iff.mp z).1) XL.keeps hdef hp hk (fun s z => recFacts_of (Bool.and_eq_true_iff.mp z).2) hwr k1 ok hb hw call
end EcHead
end
end
section
set_option Elab.async false
set_option linter.all false
set_option maxRecDepth 100000
set_option maxHeartbeats 0
noncomputable section
namespace EcHead
open PySem PySem.W PySem.Calls PyProof.Rows HandSHeadRun
abbrev R : OpenRow := OpenLaw.row PySem.Challenge.rw_enumcraft_k54_whole_order_of_members
abbrev qv : Program := view R.prog [121]
def names0 : List PySem.Str := ["_wall", "CraftError", "CraftLookup", "InvalidName", "InvalidBody", "InvalidBase", "InvalidFamily", "InvalidBoundary", "InvalidStart", "InvalidCheck", "HasMembers", "FamilyConflict", "BoundaryNotAllowed", "ReservedName", "NameTaken", "UnknownName", "NotFlag", "RuleTooLate", "NoAutomatic", "WrongValue", "NotUnique", "NotContinuous", "NotNamed", "InvalidMissing", "OtherKind", "InvalidKind", "InvalidValue", "NoMember", "NoName", "LETTERS"]
def names1 : List PySem.Str := ["DIGITS", "MOST_SIGNS", "LONGEST", "WIDEST", "DEEPEST", "GREATEST", "is_integer", "is_text", "is_name", "is_reserved", "is_nested", "is_value", "MAX_BITS", "is_flag_value", "need_flag_values", "bits_of", "union", "next_bit", "split", "kept_reading", "reading", "MOST_BASES", "KindRoot", "line_of", "line_behind", "found_word", "found_function", "need_bases", "family_of", "values_in"]
def names2 : List PySem.Str := ["mask_in", "singles_in", "WORDS", "MOST_LACKING", "need_kind", "need_checks", "alias_pairs", "gaps", "missing_numbers", "unlisted_bits", "check_all", "MOST_ENTRIES", "SIZES", "has_form", "wrong_form", "Record", "with_member", "with_word", "with_function", "automatic_value", "value_of_name", "value_of_name_entries", "given_value", "fits", "carried_out", "all_carried_out", "first_rows", "names_of", "place_of", "singles_of"]
def names3 : List PySem.Str := ["mask_of", "value_of_name_members", "flag_label", "Member", "FlagMember", "FAMILIES", "BOUNDARIES", "MOST_START", "is_one_of", "need_form", "need_options", "boundary_of", "Kind", "_law_cell", "_law_rows", "_law_flag", "_law_mask", "_law_number", "_law_two_right", "_law_three_right", "_law_parts_right"]
def names : List PySem.Str := names0 ++ names1 ++ names2 ++ names3
/-- a def's written parts -/
def partsOf : Option Stmt → Arguments × FuncBody × Scope
  | some (.FunctionDef _ a b _ _ _ sc _ _ _) => (a, .stmts b, sc)
  | _ => default
def f (i : Nat) : Arguments × FuncBody × Scope := partsOf R.prog.main.body[i]?
def g (i j : Nat) : Arguments × FuncBody × Scope := match R.prog.main.body[i]? with
  | some (.ClassDef _ _ _ b _ _ _ _ _ _ _) => partsOf b[j]?
  | _ => default
def u0 (P : Params) : Obj := PySem.W.boot_o_0 P
def u1 (P : Params) : Obj := PySem.W.boot_o_1 P
def u2 (P : Params) : Obj := PySem.W.boot_o_2 P
def u3 (P : Params) : Obj := PySem.W.boot_o_3 P
def u4 (P : Params) : Obj := PySem.W.boot_o_4 P
def u5 (P : Params) : Obj := PySem.W.boot_o_5 P
def u6 (P : Params) : Obj := PySem.W.boot_o_6 P
def u7 (P : Params) : Obj := PySem.W.boot_o_7 P
def u8 (P : Params) : Obj := PySem.W.boot_o_8 P
def u9 (P : Params) : Obj := PySem.W.boot_o_9 P
def u10 (P : Params) : Obj := PySem.W.boot_o_10 P
def u11 (P : Params) : Obj := ⟨(.type "tuple"), (none ), (.seq #[] 0), #[]⟩
def u12 (P : Params) : Obj := ⟨.none, (none ), (.fields #[]), #[]⟩
def u13 (P : Params) : Obj := ⟨(.type "code"), (none ), (.fields #[(.str "<module>" 182), (.str "<module>" 183), (.str "/claim/cut.py" 184), (.int 1 0), (.int 0 0), (.int 0 0), (.int 0 0), (.int 0 0), (.ref 11), (.bool false), (.int 181 0), (.ref 12), .none, .none, .none, .none, (.int 185 0), (.int 1 0), (.str "/claim/cut.py" 186)]), #[]⟩
def u14 (P : Params) : Obj := ⟨(.type "frame"), (none ), .plain, #[(some (.ref 13)), (some (.ref 3)), (some (.ref 3)), (none ), (some (.str "__main__" 164)), (none ), (some (.ref 0))]⟩
def treeA (P : Params) : PySem.W.BT := (.node (u0 P) (.node (u1 P) (.node (u3 P) (.node (u7 P) .nil .nil) (.node (u11 P) .nil .nil)) (.node (u5 P) (.node (u9 P) .nil .nil) (.node (u13 P) .nil .nil))) (.node (u2 P) (.node (u4 P) (.node (u8 P) .nil .nil) (.node (u12 P) .nil .nil)) (.node (u6 P) (.node (u10 P) .nil .nil) (.node (u14 P) .nil .nil))))
def o0 (P : Params) : Obj := PySem.W.boot_o_0 P
def o1 (P : Params) : Obj := PySem.W.boot_o_1 P
def o2 (P : Params) : Obj := PySem.W.boot_o_2 P
def o3 (P : Params) : Obj := ⟨(.type "dict"), (none ), (.dict #[⟨(PyData.keyHash P "__name__"), (.str "__name__" 165), (.str "enumcraft.entries" 1222)⟩, ⟨(PyData.keyHash P "__doc__"), (.str "__doc__" 166), .none⟩, ⟨(PyData.keyHash P "__package__"), (.str "__package__" 167), .none⟩, ⟨(PyData.keyHash P "__loader__"), (.str "__loader__" 168), (.builtin "__main__.__loader__#opaque")⟩, ⟨(PyData.keyHash P "__spec__"), (.str "__spec__" 169), .none⟩, ⟨(PyData.keyHash P "__annotations__"), (.str "__annotations__" 170), (.ref 6)⟩, ⟨(PyData.keyHash P "__builtins__"), (.str "__builtins__" 171), (.ref 4)⟩, ⟨(PyData.keyHash P "__file__"), (.str "__file__" 173), (.str "/claim/cut.py" 172)⟩, ⟨(PyData.keyHash P "__cached__"), (.str "__cached__" 174), .none⟩, ⟨(PyData.keyHash P "_wall"), (.str "_wall" 193), (.ref 21)⟩, ⟨(PyData.keyHash P "CraftError"), (.str "CraftError" 213), (.ref 31)⟩, ⟨(PyData.keyHash P "CraftLookup"), (.str "CraftLookup" 231), (.ref 44)⟩, ⟨(PyData.keyHash P "InvalidName"), (.str "InvalidName" 258), (.ref 66)⟩, ⟨(PyData.keyHash P "InvalidBody"), (.str "InvalidBody" 285), (.ref 87)⟩, ⟨(PyData.keyHash P "InvalidBase"), (.str "InvalidBase" 312), (.ref 108)⟩, ⟨(PyData.keyHash P "InvalidFamily"), (.str "InvalidFamily" 339), (.ref 129)⟩, ⟨(PyData.keyHash P "InvalidBoundary"), (.str "InvalidBoundary" 366), (.ref 150)⟩, ⟨(PyData.keyHash P "InvalidStart"), (.str "InvalidStart" 393), (.ref 171)⟩, ⟨(PyData.keyHash P "InvalidCheck"), (.str "InvalidCheck" 420), (.ref 192)⟩, ⟨(PyData.keyHash P "HasMembers"), (.str "HasMembers" 447), (.ref 213)⟩, ⟨(PyData.keyHash P "FamilyConflict"), (.str "FamilyConflict" 474), (.ref 234)⟩, ⟨(PyData.keyHash P "BoundaryNotAllowed"), (.str "BoundaryNotAllowed" 501), (.ref 255)⟩, ⟨(PyData.keyHash P "ReservedName"), (.str "ReservedName" 528), (.ref 276)⟩, ⟨(PyData.keyHash P "NameTaken"), (.str "NameTaken" 555), (.ref 297)⟩, ⟨(PyData.keyHash P "UnknownName"), (.str "UnknownName" 582), (.ref 318)⟩, ⟨(PyData.keyHash P "NotFlag"), (.str "NotFlag" 609), (.ref 339)⟩, ⟨(PyData.keyHash P "RuleTooLate"), (.str "RuleTooLate" 636), (.ref 360)⟩, ⟨(PyData.keyHash P "NoAutomatic"), (.str "NoAutomatic" 663), (.ref 381)⟩, ⟨(PyData.keyHash P "WrongValue"), (.str "WrongValue" 692), (.ref 402)⟩, ⟨(PyData.keyHash P "NotUnique"), (.str "NotUnique" 719), (.ref 423)⟩, ⟨(PyData.keyHash P "NotContinuous"), (.str "NotContinuous" 746), (.ref 444)⟩, ⟨(PyData.keyHash P "NotNamed"), (.str "NotNamed" 773), (.ref 465)⟩, ⟨(PyData.keyHash P "InvalidMissing"), (.str "InvalidMissing" 800), (.ref 486)⟩, ⟨(PyData.keyHash P "OtherKind"), (.str "OtherKind" 827), (.ref 507)⟩, ⟨(PyData.keyHash P "InvalidKind"), (.str "InvalidKind" 854), (.ref 528)⟩, ⟨(PyData.keyHash P "InvalidValue"), (.str "InvalidValue" 881), (.ref 549)⟩, ⟨(PyData.keyHash P "NoMember"), (.str "NoMember" 908), (.ref 570)⟩, ⟨(PyData.keyHash P "NoName"), (.str "NoName" 935), (.ref 591)⟩, ⟨(PyData.keyHash P "LETTERS"), (.str "LETTERS" 939), (.str "ABCDEFGHIJKLMNOPQRSTUVWXYZabcdefghijklmnopqrstuvwxyz_" 938)⟩, ⟨(PyData.keyHash P "DIGITS"), (.str "DIGITS" 941), (.str "0123456789" 940)⟩, ⟨(PyData.keyHash P "MOST_SIGNS"), (.str "MOST_SIGNS" 943), (.int 20 942)⟩, ⟨(PyData.keyHash P "LONGEST"), (.str "LONGEST" 945), (.int 40 944)⟩, ⟨(PyData.keyHash P "WIDEST"), (.str "WIDEST" 947), (.int 6 946)⟩, ⟨(PyData.keyHash P "DEEPEST"), (.str "DEEPEST" 949), (.int 3 948)⟩, ⟨(PyData.keyHash P "GREATEST"), (.str "GREATEST" 951), (.int 1000000000000000000000000000000 950)⟩, ⟨(PyData.keyHash P "is_integer"), (.str "is_integer" 958), (.ref 600)⟩, ⟨(PyData.keyHash P "is_text"), (.str "is_text" 965), (.ref 607)⟩, ⟨(PyData.keyHash P "is_name"), (.str "is_name" 971), (.ref 612)⟩, ⟨(PyData.keyHash P "is_reserved"), (.str "is_reserved" 978), (.ref 619)⟩, ⟨(PyData.keyHash P "is_nested"), (.str "is_nested" 984), (.ref 624)⟩, ⟨(PyData.keyHash P "is_value"), (.str "is_value" 991), (.ref 631)⟩, ⟨(PyData.keyHash P "MAX_BITS"), (.str "MAX_BITS" 995), (.int 40 994)⟩, ⟨(PyData.keyHash P "is_flag_value"), (.str "is_flag_value" 1002), (.ref 638)⟩, ⟨(PyData.keyHash P "need_flag_values"), (.str "need_flag_values" 1010), (.ref 645)⟩, ⟨(PyData.keyHash P "bits_of"), (.str "bits_of" 1016), (.ref 650)⟩, ⟨(PyData.keyHash P "union"), (.str "union" 1025), (.ref 657)⟩, ⟨(PyData.keyHash P "next_bit"), (.str "next_bit" 1032), (.ref 664)⟩, ⟨(PyData.keyHash P "split"), (.str "split" 1038), (.ref 669)⟩, ⟨(PyData.keyHash P "kept_reading"), (.str "kept_reading" 1047), (.ref 676)⟩, ⟨(PyData.keyHash P "reading"), (.str "reading" 1056), (.ref 683)⟩, ⟨(PyData.keyHash P "MOST_BASES"), (.str "MOST_BASES" 1060), (.int 4 1059)⟩, ⟨(PyData.keyHash P "KindRoot"), (.str "KindRoot" 1100), (.ref 700)⟩, ⟨(PyData.keyHash P "line_of"), (.str "line_of" 1107), (.ref 711)⟩, ⟨(PyData.keyHash P "line_behind"), (.str "line_behind" 1113), (.ref 716)⟩, ⟨(PyData.keyHash P "found_word"), (.str "found_word" 1119), (.ref 721)⟩, ⟨(PyData.keyHash P "found_function"), (.str "found_function" 1125), (.ref 726)⟩, ⟨(PyData.keyHash P "need_bases"), (.str "need_bases" 1134), (.ref 733)⟩, ⟨(PyData.keyHash P "family_of"), (.str "family_of" 1140), (.ref 738)⟩, ⟨(PyData.keyHash P "values_in"), (.str "values_in" 1146), (.ref 743)⟩, ⟨(PyData.keyHash P "mask_in"), (.str "mask_in" 1155), (.ref 750)⟩, ⟨(PyData.keyHash P "singles_in"), (.str "singles_in" 1161), (.ref 755)⟩, ⟨(PyData.keyHash P "WORDS"), (.str "WORDS" 1167), (.ref 756)⟩, ⟨(PyData.keyHash P "MOST_LACKING"), (.str "MOST_LACKING" 1169), (.int 20 1168)⟩, ⟨(PyData.keyHash P "need_kind"), (.str "need_kind" 1176), (.ref 763)⟩, ⟨(PyData.keyHash P "need_checks"), (.str "need_checks" 1185), (.ref 770)⟩, ⟨(PyData.keyHash P "alias_pairs"), (.str "alias_pairs" 1191), (.ref 775)⟩, ⟨(PyData.keyHash P "gaps"), (.str "gaps" 1197), (.ref 780)⟩, ⟨(PyData.keyHash P "missing_numbers"), (.str "missing_numbers" 1203), (.ref 785)⟩, ⟨(PyData.keyHash P "unlisted_bits"), (.str "unlisted_bits" 1209), (.ref 790)⟩, ⟨(PyData.keyHash P "check_all"), (.str "check_all" 1221), (.ref 797)⟩, ⟨(PyData.keyHash P "MOST_ENTRIES"), (.str "MOST_ENTRIES" 1225), (.int 60 1224)⟩] 81), #[]⟩
def o4 (P : Params) : Obj := PySem.W.boot_o_4 P
def o5 (P : Params) : Obj := PySem.W.boot_o_5 P
def o6 (P : Params) : Obj := PySem.W.boot_o_6 P
def o7 (P : Params) : Obj := PySem.W.boot_o_7 P
def o8 (P : Params) : Obj := PySem.W.boot_o_8 P
def o9 (P : Params) : Obj := PySem.W.boot_o_9 P
def o10 (P : Params) : Obj := PySem.W.boot_o_10 P
def o11 (P : Params) : Obj := ⟨(.type "tuple"), (none ), (.seq #[] 0), #[]⟩
def o12 (P : Params) : Obj := ⟨.none, (none ), (.fields #[(.int 1 0), (.int 0 0), (.ref 20), (.int 5 0), (.int 0 0), (.ref 27), (.int 7 0), (.int 0 0), (.ref 40), (.int 9 0), (.int 0 0), (.ref 54), (.int 14 0), (.int 0 0), (.ref 75), (.int 19 0), (.int 0 0), (.ref 96), (.int 24 0), (.int 0 0), (.ref 117), (.int 29 0), (.int 0 0), (.ref 138), (.int 34 0), (.int 0 0), (.ref 159), (.int 39 0), (.int 0 0), (.ref 180), (.int 44 0), (.int 0 0), (.ref 201), (.int 49 0), (.int 0 0), (.ref 222), (.int 54 0), (.int 0 0), (.ref 243), (.int 59 0), (.int 0 0), (.ref 264), (.int 64 0), (.int 0 0), (.ref 285), (.int 69 0), (.int 0 0), (.ref 306), (.int 74 0), (.int 0 0), (.ref 327), (.int 79 0), (.int 0 0), (.ref 348), (.int 84 0), (.int 0 0), (.ref 369), (.int 89 0), (.int 0 0), (.ref 390), (.int 95 0), (.int 0 0), (.ref 411), (.int 100 0), (.int 0 0), (.ref 432), (.int 105 0), (.int 0 0), (.ref 453), (.int 110 0), (.int 0 0), (.ref 474), (.int 115 0), (.int 0 0), (.ref 495), (.int 120 0), (.int 0 0), (.ref 516), (.int 125 0), (.int 0 0), (.ref 537), (.int 130 0), (.int 0 0), (.ref 558), (.int 135 0), (.int 0 0), (.ref 579), (.int 148 0), (.int 0 0), (.ref 599), (.int 150 0), (.int 0 0), (.ref 606), (.int 152 0), (.int 0 0), (.ref 611), (.int 156 0), (.int 0 0), (.ref 618), (.int 158 0), (.int 0 0), (.ref 623), (.int 166 0), (.int 0 0), (.ref 630), (.int 170 0), (.int 0 0), (.ref 637), (.int 172 0), (.int 0 0), (.ref 644), (.int 176 0), (.int 0 0), (.ref 649), (.int 179 0), (.int 0 0), (.ref 656), (.int 185 0), (.int 0 0), (.ref 663), (.int 187 0), (.int 0 0), (.ref 668), (.int 191 0), (.int 0 0), (.ref 675), (.int 198 0), (.int 0 0), (.ref 682), (.int 210 0), (.int 0 0), (.ref 689), (.int 220 0), (.int 0 0), (.ref 710), (.int 222 0), (.int 0 0), (.ref 715), (.int 227 0), (.int 0 0), (.ref 720), (.int 234 0), (.int 0 0), (.ref 725), (.int 240 0), (.int 0 0), (.ref 732), (.int 246 0), (.int 0 0), (.ref 737), (.int 258 0), (.int 0 0), (.ref 742), (.int 260 0), (.int 0 0), (.ref 749), (.int 265 0), (.int 0 0), (.ref 754), (.int 271 0), (.int 0 0), (.ref 762), (.int 274 0), (.int 0 0), (.ref 769), (.int 280 0), (.int 0 0), (.ref 774), (.int 284 0), (.int 0 0), (.ref 779), (.int 293 0), (.int 0 0), (.ref 784), (.int 303 0), (.int 0 0), (.ref 789), (.int 309 0), (.int 0 0), (.ref 796)]), #[]⟩
def o13 (P : Params) : Obj := ⟨(.type "code"), (none ), (.fields #[(.str "<module>" 182), (.str "<module>" 183), (.str "/claim/cut.py" 184), (.int 1 0), (.int 0 0), (.int 0 0), (.int 0 0), (.int 0 0), (.ref 11), (.bool false), (.int 181 0), (.ref 12), .none, .none, .none, .none, (.int 185 0), (.int 1 0), (.str "/claim/cut.py" 186)]), #[]⟩
def o14 (P : Params) : Obj := ⟨(.type "frame"), (none ), .plain, #[(some (.ref 13)), (some (.ref 3)), (some (.ref 3)), (none ), (some (.str "__main__" 164)), (none ), (some (.ref 0))]⟩
def o15 (P : Params) : Obj := ⟨(.type "tuple"), (none ), (.seq #[] 0), #[]⟩
def o16 (P : Params) : Obj := ⟨.none, (none ), (.fields #[]), #[]⟩
def o17 (P : Params) : Obj := ⟨(.type "tuple"), (none ), (.seq #[(.str "k" 190)] 0), #[]⟩
def o18 (P : Params) : Obj := ⟨(.type "tuple"), (none ), (.seq #[] 0), #[]⟩
def o19 (P : Params) : Obj := ⟨.none, (none ), (.func ⟨"_wall", "_wall", (f 0).1, (f 0).2.1, (f 0).2.2, 0, [], .none, .none, .none, .none, (none ), .none, .none, 0⟩), #[]⟩
def o20 (P : Params) : Obj := ⟨(.type "code"), (none ), (.fields #[(.str "_wall" 187), (.str "_wall" 188), (.str "/claim/cut.py" 189), (.int 1 0), (.int 1 0), (.int 0 0), (.int 0 0), (.int 3 0), (.ref 15), (.bool true), (.int 181 0), (.ref 16), .none, (.ref 17), (.ref 18), (.ref 19), (.int 191 0), (.int 1 0), (.str "/claim/cut.py" 192)]), #[]⟩
def o21 (P : Params) : Obj := ⟨(.type "function"), (none ), (.func ⟨"_wall", "_wall", (f 0).1, (f 0).2.1, (f 0).2.2, 3, [], .none, .none, .none, (.str "__main__" 164), (none ), (.ref 20), .none, 0⟩), #[]⟩
def o22 (P : Params) : Obj := ⟨(.type "tuple"), (none ), (.seq #[(.type "ValueError")] 0), #[]⟩
def o23 (P : Params) : Obj := ⟨(.type "builtin_function_or_method"), (none ), (.fields #[(.builtin "type.__prepare__"), (.type "type")]), #[]⟩
def o24 (P : Params) : Obj := ⟨(.type "dict"), (none ), (.dict #[⟨(PyData.keyHash P "__module__"), (.str "__module__" 203), (.str "enumcraft.errors" 194)⟩, ⟨(PyData.keyHash P "__qualname__"), (.str "__qualname__" 205), (.str "CraftError" 204)⟩, ⟨(PyData.keyHash P "__firstlineno__"), (.str "__firstlineno__" 207), (.int 5 206)⟩, ⟨(PyData.keyHash P "__static_attributes__"), (.str "__static_attributes__" 208), (.ref 29)⟩] 4), #[]⟩
def o25 (P : Params) : Obj := ⟨(.type "tuple"), (none ), (.seq #[] 0), #[]⟩
def o26 (P : Params) : Obj := ⟨.none, (none ), (.fields #[]), #[]⟩
def o27 (P : Params) : Obj := ⟨(.type "code"), (none ), (.fields #[(.str "CraftError" 198), (.str "CraftError" 199), (.str "/claim/cut.py" 200), (.int 5 0), (.int 0 0), (.int 0 0), (.int 0 0), (.int 0 0), (.ref 25), (.bool false), (.int 181 0), (.ref 26), .none, .none, .none, .none, (.int 201 0), (.int 5 0), (.str "/claim/cut.py" 202)]), #[]⟩
def o28 (P : Params) : Obj := ⟨(.type "frame"), (none ), .plain, #[(some (.ref 27)), (some (.ref 3)), (some (.ref 24)), (none ), (some (.str "enumcraft.errors" 194)), (none ), (some (.ref 0))]⟩
def o29 (P : Params) : Obj := ⟨(.type "tuple"), (none ), (.seq #[] 0), #[]⟩
def o30 (P : Params) : Obj := ⟨(.type "dict"), (none ), (.dict #[⟨(PyData.keyHash P "__module__"), (.str "__module__" 203), (.str "enumcraft.errors" 194)⟩, ⟨(PyData.keyHash P "__firstlineno__"), (.str "__firstlineno__" 207), (.int 5 206)⟩, ⟨(PyData.keyHash P "__static_attributes__"), (.str "__static_attributes__" 208), (.ref 29)⟩, ⟨(PyData.keyHash P "__weakref__"), (.str "__weakref__" 210), (.ref 32)⟩, ⟨(PyData.keyHash P "__doc__"), (.str "__doc__" 211), .none⟩] 3), #[]⟩
def o31 (P : Params) : Obj := ⟨(.type "type"), (none ), (.cls ⟨"CraftError", [(.type "ValueError")], [(.ref 31), (.type "ValueError"), (.type "Exception"), (.type "BaseException"), (.type "object")], 30, "CraftError", true, [], [(.ref 66), (.ref 87), (.ref 108), (.ref 129), (.ref 150), (.ref 171), (.ref 192), (.ref 213), (.ref 234), (.ref 255), (.ref 276), (.ref 297), (.ref 318), (.ref 339), (.ref 360), (.ref 381), (.ref 402), (.ref 423), (.ref 444), (.ref 465), (.ref 486), (.ref 507), (.ref 528), (.ref 549)], false, (none ), false⟩), #[(some (.ref 22)), (none ), (some (.str "CraftError" 196)), (some (.str "CraftError" 204)), (some (.builtin "ValueError.__new__")), (some (.bool true))]⟩
def o32 (P : Params) : Obj := ⟨(.type "getset_descriptor"), (none ), (.fields #[(.str "__weakref__" 209), (.ref 31), (.builtin "ExceptionGroup.__weakref__"), .none]), #[]⟩
def o33 (P : Params) : Obj := ⟨(.type "super"), (none ), (.fields #[(.ref 31), (.ref 31), (.ref 31)]), #[]⟩
def o34 (P : Params) : Obj := ⟨(.type "builtin_function_or_method"), (none ), (.fields #[(.builtin "object.__init_subclass__"), (.ref 31)]), #[]⟩
def o35 (P : Params) : Obj := ⟨(.type "tuple"), (none ), (.seq #[(.type "LookupError")] 0), #[]⟩
def o36 (P : Params) : Obj := ⟨(.type "builtin_function_or_method"), (none ), (.fields #[(.builtin "type.__prepare__"), (.type "type")]), #[]⟩
def o37 (P : Params) : Obj := ⟨(.type "dict"), (none ), (.dict #[⟨(PyData.keyHash P "__module__"), (.str "__module__" 221), (.str "enumcraft.errors" 194)⟩, ⟨(PyData.keyHash P "__qualname__"), (.str "__qualname__" 223), (.str "CraftLookup" 222)⟩, ⟨(PyData.keyHash P "__firstlineno__"), (.str "__firstlineno__" 225), (.int 7 224)⟩, ⟨(PyData.keyHash P "__static_attributes__"), (.str "__static_attributes__" 226), (.ref 42)⟩] 4), #[]⟩
def o38 (P : Params) : Obj := ⟨(.type "tuple"), (none ), (.seq #[] 0), #[]⟩
def o39 (P : Params) : Obj := ⟨.none, (none ), (.fields #[]), #[]⟩
def o40 (P : Params) : Obj := ⟨(.type "code"), (none ), (.fields #[(.str "CraftLookup" 216), (.str "CraftLookup" 217), (.str "/claim/cut.py" 218), (.int 7 0), (.int 0 0), (.int 0 0), (.int 0 0), (.int 0 0), (.ref 38), (.bool false), (.int 181 0), (.ref 39), .none, .none, .none, .none, (.int 219 0), (.int 7 0), (.str "/claim/cut.py" 220)]), #[]⟩
def o41 (P : Params) : Obj := ⟨(.type "frame"), (none ), .plain, #[(some (.ref 40)), (some (.ref 3)), (some (.ref 37)), (none ), (some (.str "enumcraft.errors" 194)), (none ), (some (.ref 0))]⟩
def o42 (P : Params) : Obj := ⟨(.type "tuple"), (none ), (.seq #[] 0), #[]⟩
def o43 (P : Params) : Obj := ⟨(.type "dict"), (none ), (.dict #[⟨(PyData.keyHash P "__module__"), (.str "__module__" 221), (.str "enumcraft.errors" 194)⟩, ⟨(PyData.keyHash P "__firstlineno__"), (.str "__firstlineno__" 225), (.int 7 224)⟩, ⟨(PyData.keyHash P "__static_attributes__"), (.str "__static_attributes__" 226), (.ref 42)⟩, ⟨(PyData.keyHash P "__weakref__"), (.str "__weakref__" 228), (.ref 45)⟩, ⟨(PyData.keyHash P "__doc__"), (.str "__doc__" 229), .none⟩] 3), #[]⟩
def o44 (P : Params) : Obj := ⟨(.type "type"), (none ), (.cls ⟨"CraftLookup", [(.type "LookupError")], [(.ref 44), (.type "LookupError"), (.type "Exception"), (.type "BaseException"), (.type "object")], 43, "CraftLookup", true, [], [(.ref 570), (.ref 591)], false, (none ), false⟩), #[(some (.ref 35)), (none ), (some (.str "CraftLookup" 214)), (some (.str "CraftLookup" 222)), (some (.builtin "LookupError.__new__")), (some (.bool true))]⟩
def o45 (P : Params) : Obj := ⟨(.type "getset_descriptor"), (none ), (.fields #[(.str "__weakref__" 227), (.ref 44), (.builtin "ExceptionGroup.__weakref__"), .none]), #[]⟩
def o46 (P : Params) : Obj := ⟨(.type "super"), (none ), (.fields #[(.ref 44), (.ref 44), (.ref 44)]), #[]⟩
def o47 (P : Params) : Obj := ⟨(.type "builtin_function_or_method"), (none ), (.fields #[(.builtin "object.__init_subclass__"), (.ref 44)]), #[]⟩
def o48 (P : Params) : Obj := ⟨(.type "tuple"), (none ), (.seq #[(.ref 31)] 0), #[]⟩
def o49 (P : Params) : Obj := ⟨(.type "builtin_function_or_method"), (none ), (.fields #[(.builtin "type.__prepare__"), (.type "type")]), #[]⟩
def o50 (P : Params) : Obj := ⟨(.type "dict"), (none ), (.dict #[⟨(PyData.keyHash P "__module__"), (.str "__module__" 239), (.str "enumcraft.errors" 194)⟩, ⟨(PyData.keyHash P "__qualname__"), (.str "__qualname__" 241), (.str "InvalidName" 240)⟩, ⟨(PyData.keyHash P "__firstlineno__"), (.str "__firstlineno__" 243), (.int 9 242)⟩, ⟨(PyData.keyHash P "__init__"), (.str "__init__" 252), (.ref 63)⟩, ⟨(PyData.keyHash P "__static_attributes__"), (.str "__static_attributes__" 254), (.ref 64)⟩, ⟨(PyData.keyHash P "__classcell__"), (.str "__classcell__" 255), (.ref 51)⟩] 6), #[]⟩
def o51 (P : Params) : Obj := ⟨(.type "cell"), (none ), (.cell (some (.ref 66))), #[]⟩
def o52 (P : Params) : Obj := ⟨(.type "tuple"), (none ), (.seq #[] 0), #[]⟩
def o53 (P : Params) : Obj := ⟨.none, (none ), (.fields #[(.int 11 0), (.int 4 0), (.ref 62)]), #[]⟩
def o54 (P : Params) : Obj := ⟨(.type "code"), (none ), (.fields #[(.str "InvalidName" 234), (.str "InvalidName" 235), (.str "/claim/cut.py" 236), (.int 9 0), (.int 0 0), (.int 0 0), (.int 0 0), (.int 0 0), (.ref 52), (.bool false), (.int 181 0), (.ref 53), .none, .none, .none, .none, (.int 237 0), (.int 9 0), (.str "/claim/cut.py" 238)]), #[]⟩
def o55 (P : Params) : Obj := ⟨(.type "frame"), (none ), .plain, #[(some (.ref 54)), (some (.ref 3)), (some (.ref 50)), (none ), (some (.str "enumcraft.errors" 194)), (none ), (some (.ref 0))]⟩
def o56 (P : Params) : Obj := ⟨(.type "tuple"), (none ), (.seq #[(.ref 51)] 0), #[]⟩
def o57 (P : Params) : Obj := ⟨(.type "tuple"), (none ), (.seq #[(.str "__class__" 247)] 0), #[]⟩
def o58 (P : Params) : Obj := ⟨.none, (none ), (.fields #[]), #[]⟩
def o59 (P : Params) : Obj := ⟨(.type "tuple"), (none ), (.seq #[(.str "self" 248), (.str "given" 249)] 0), #[]⟩
def o60 (P : Params) : Obj := ⟨(.type "tuple"), (none ), (.seq #[] 0), #[]⟩
def o61 (P : Params) : Obj := ⟨.none, (none ), (.func ⟨"__init__", "InvalidName.__init__", (g 4 0).1, (g 4 0).2.1, (g 4 0).2.2, 0, [], .none, .none, .none, .none, (none ), .none, .none, 0⟩), #[]⟩
def o62 (P : Params) : Obj := ⟨(.type "code"), (none ), (.fields #[(.str "__init__" 244), (.str "InvalidName.__init__" 245), (.str "/claim/cut.py" 246), (.int 11 0), (.int 2 0), (.int 0 0), (.int 0 0), (.int 3 0), (.ref 57), (.bool true), (.int 181 0), (.ref 58), .none, (.ref 59), (.ref 60), (.ref 61), (.int 250 0), (.int 11 0), (.str "/claim/cut.py" 251)]), #[]⟩
def o63 (P : Params) : Obj := ⟨(.type "function"), (none ), (.func ⟨"__init__", "InvalidName.__init__", (g 4 0).1, (g 4 0).2.1, (g 4 0).2.2, 3, [⟨"__class__", 51⟩], .none, .none, .none, (.str "enumcraft.errors" 194), (none ), (.ref 62), (.ref 56), 0⟩), #[]⟩
def o64 (P : Params) : Obj := ⟨(.type "tuple"), (none ), (.seq #[(.str "given" 253)] 0), #[]⟩
def o65 (P : Params) : Obj := ⟨(.type "dict"), (none ), (.dict #[⟨(PyData.keyHash P "__module__"), (.str "__module__" 239), (.str "enumcraft.errors" 194)⟩, ⟨(PyData.keyHash P "__firstlineno__"), (.str "__firstlineno__" 243), (.int 9 242)⟩, ⟨(PyData.keyHash P "__init__"), (.str "__init__" 252), (.ref 63)⟩, ⟨(PyData.keyHash P "__static_attributes__"), (.str "__static_attributes__" 254), (.ref 64)⟩, ⟨(PyData.keyHash P "__doc__"), (.str "__doc__" 256), .none⟩] 3), #[]⟩
def o66 (P : Params) : Obj := ⟨(.type "type"), (none ), (.cls ⟨"InvalidName", [(.ref 31)], [(.ref 66), (.ref 31), (.type "ValueError"), (.type "Exception"), (.type "BaseException"), (.type "object")], 65, "InvalidName", true, [], [], false, (none ), false⟩), #[(some (.ref 48)), (none ), (some (.str "InvalidName" 232)), (some (.str "InvalidName" 240)), (some (.builtin "ValueError.__new__")), (some (.bool true))]⟩
def o67 (P : Params) : Obj := ⟨(.type "super"), (none ), (.fields #[(.ref 66), (.ref 66), (.ref 66)]), #[]⟩
def o68 (P : Params) : Obj := ⟨(.type "builtin_function_or_method"), (none ), (.fields #[(.builtin "object.__init_subclass__"), (.ref 66)]), #[]⟩
def o69 (P : Params) : Obj := ⟨(.type "tuple"), (none ), (.seq #[(.ref 31)] 0), #[]⟩
def o70 (P : Params) : Obj := ⟨(.type "builtin_function_or_method"), (none ), (.fields #[(.builtin "type.__prepare__"), (.type "type")]), #[]⟩
def o71 (P : Params) : Obj := ⟨(.type "dict"), (none ), (.dict #[⟨(PyData.keyHash P "__module__"), (.str "__module__" 266), (.str "enumcraft.errors" 194)⟩, ⟨(PyData.keyHash P "__qualname__"), (.str "__qualname__" 268), (.str "InvalidBody" 267)⟩, ⟨(PyData.keyHash P "__firstlineno__"), (.str "__firstlineno__" 270), (.int 14 269)⟩, ⟨(PyData.keyHash P "__init__"), (.str "__init__" 279), (.ref 84)⟩, ⟨(PyData.keyHash P "__static_attributes__"), (.str "__static_attributes__" 281), (.ref 85)⟩, ⟨(PyData.keyHash P "__classcell__"), (.str "__classcell__" 282), (.ref 72)⟩] 6), #[]⟩
def o72 (P : Params) : Obj := ⟨(.type "cell"), (none ), (.cell (some (.ref 87))), #[]⟩
def o73 (P : Params) : Obj := ⟨(.type "tuple"), (none ), (.seq #[] 0), #[]⟩
def o74 (P : Params) : Obj := ⟨.none, (none ), (.fields #[(.int 16 0), (.int 4 0), (.ref 83)]), #[]⟩
def o75 (P : Params) : Obj := ⟨(.type "code"), (none ), (.fields #[(.str "InvalidBody" 261), (.str "InvalidBody" 262), (.str "/claim/cut.py" 263), (.int 14 0), (.int 0 0), (.int 0 0), (.int 0 0), (.int 0 0), (.ref 73), (.bool false), (.int 181 0), (.ref 74), .none, .none, .none, .none, (.int 264 0), (.int 14 0), (.str "/claim/cut.py" 265)]), #[]⟩
def o76 (P : Params) : Obj := ⟨(.type "frame"), (none ), .plain, #[(some (.ref 75)), (some (.ref 3)), (some (.ref 71)), (none ), (some (.str "enumcraft.errors" 194)), (none ), (some (.ref 0))]⟩
def o77 (P : Params) : Obj := ⟨(.type "tuple"), (none ), (.seq #[(.ref 72)] 0), #[]⟩
def o78 (P : Params) : Obj := ⟨(.type "tuple"), (none ), (.seq #[(.str "__class__" 274)] 0), #[]⟩
def o79 (P : Params) : Obj := ⟨.none, (none ), (.fields #[]), #[]⟩
def o80 (P : Params) : Obj := ⟨(.type "tuple"), (none ), (.seq #[(.str "self" 275), (.str "index" 276)] 0), #[]⟩
def o81 (P : Params) : Obj := ⟨(.type "tuple"), (none ), (.seq #[] 0), #[]⟩
def o82 (P : Params) : Obj := ⟨.none, (none ), (.func ⟨"__init__", "InvalidBody.__init__", (g 5 0).1, (g 5 0).2.1, (g 5 0).2.2, 0, [], .none, .none, .none, .none, (none ), .none, .none, 0⟩), #[]⟩
def o83 (P : Params) : Obj := ⟨(.type "code"), (none ), (.fields #[(.str "__init__" 271), (.str "InvalidBody.__init__" 272), (.str "/claim/cut.py" 273), (.int 16 0), (.int 2 0), (.int 0 0), (.int 0 0), (.int 3 0), (.ref 78), (.bool true), (.int 181 0), (.ref 79), .none, (.ref 80), (.ref 81), (.ref 82), (.int 277 0), (.int 16 0), (.str "/claim/cut.py" 278)]), #[]⟩
def o84 (P : Params) : Obj := ⟨(.type "function"), (none ), (.func ⟨"__init__", "InvalidBody.__init__", (g 5 0).1, (g 5 0).2.1, (g 5 0).2.2, 3, [⟨"__class__", 72⟩], .none, .none, .none, (.str "enumcraft.errors" 194), (none ), (.ref 83), (.ref 77), 0⟩), #[]⟩
def o85 (P : Params) : Obj := ⟨(.type "tuple"), (none ), (.seq #[(.str "index" 280)] 0), #[]⟩
def o86 (P : Params) : Obj := ⟨(.type "dict"), (none ), (.dict #[⟨(PyData.keyHash P "__module__"), (.str "__module__" 266), (.str "enumcraft.errors" 194)⟩, ⟨(PyData.keyHash P "__firstlineno__"), (.str "__firstlineno__" 270), (.int 14 269)⟩, ⟨(PyData.keyHash P "__init__"), (.str "__init__" 279), (.ref 84)⟩, ⟨(PyData.keyHash P "__static_attributes__"), (.str "__static_attributes__" 281), (.ref 85)⟩, ⟨(PyData.keyHash P "__doc__"), (.str "__doc__" 283), .none⟩] 3), #[]⟩
def o87 (P : Params) : Obj := ⟨(.type "type"), (none ), (.cls ⟨"InvalidBody", [(.ref 31)], [(.ref 87), (.ref 31), (.type "ValueError"), (.type "Exception"), (.type "BaseException"), (.type "object")], 86, "InvalidBody", true, [], [], false, (none ), false⟩), #[(some (.ref 69)), (none ), (some (.str "InvalidBody" 259)), (some (.str "InvalidBody" 267)), (some (.builtin "ValueError.__new__")), (some (.bool true))]⟩
def o88 (P : Params) : Obj := ⟨(.type "super"), (none ), (.fields #[(.ref 87), (.ref 87), (.ref 87)]), #[]⟩
def o89 (P : Params) : Obj := ⟨(.type "builtin_function_or_method"), (none ), (.fields #[(.builtin "object.__init_subclass__"), (.ref 87)]), #[]⟩
def o90 (P : Params) : Obj := ⟨(.type "tuple"), (none ), (.seq #[(.ref 31)] 0), #[]⟩
def o91 (P : Params) : Obj := ⟨(.type "builtin_function_or_method"), (none ), (.fields #[(.builtin "type.__prepare__"), (.type "type")]), #[]⟩
def o92 (P : Params) : Obj := ⟨(.type "dict"), (none ), (.dict #[⟨(PyData.keyHash P "__module__"), (.str "__module__" 293), (.str "enumcraft.errors" 194)⟩, ⟨(PyData.keyHash P "__qualname__"), (.str "__qualname__" 295), (.str "InvalidBase" 294)⟩, ⟨(PyData.keyHash P "__firstlineno__"), (.str "__firstlineno__" 297), (.int 19 296)⟩, ⟨(PyData.keyHash P "__init__"), (.str "__init__" 306), (.ref 105)⟩, ⟨(PyData.keyHash P "__static_attributes__"), (.str "__static_attributes__" 308), (.ref 106)⟩, ⟨(PyData.keyHash P "__classcell__"), (.str "__classcell__" 309), (.ref 93)⟩] 6), #[]⟩
def o93 (P : Params) : Obj := ⟨(.type "cell"), (none ), (.cell (some (.ref 108))), #[]⟩
def o94 (P : Params) : Obj := ⟨(.type "tuple"), (none ), (.seq #[] 0), #[]⟩
def o95 (P : Params) : Obj := ⟨.none, (none ), (.fields #[(.int 21 0), (.int 4 0), (.ref 104)]), #[]⟩
def o96 (P : Params) : Obj := ⟨(.type "code"), (none ), (.fields #[(.str "InvalidBase" 288), (.str "InvalidBase" 289), (.str "/claim/cut.py" 290), (.int 19 0), (.int 0 0), (.int 0 0), (.int 0 0), (.int 0 0), (.ref 94), (.bool false), (.int 181 0), (.ref 95), .none, .none, .none, .none, (.int 291 0), (.int 19 0), (.str "/claim/cut.py" 292)]), #[]⟩
def o97 (P : Params) : Obj := ⟨(.type "frame"), (none ), .plain, #[(some (.ref 96)), (some (.ref 3)), (some (.ref 92)), (none ), (some (.str "enumcraft.errors" 194)), (none ), (some (.ref 0))]⟩
def o98 (P : Params) : Obj := ⟨(.type "tuple"), (none ), (.seq #[(.ref 93)] 0), #[]⟩
def o99 (P : Params) : Obj := ⟨(.type "tuple"), (none ), (.seq #[(.str "__class__" 301)] 0), #[]⟩
def o100 (P : Params) : Obj := ⟨.none, (none ), (.fields #[]), #[]⟩
def o101 (P : Params) : Obj := ⟨(.type "tuple"), (none ), (.seq #[(.str "self" 302), (.str "index" 303)] 0), #[]⟩
def o102 (P : Params) : Obj := ⟨(.type "tuple"), (none ), (.seq #[] 0), #[]⟩
def o103 (P : Params) : Obj := ⟨.none, (none ), (.func ⟨"__init__", "InvalidBase.__init__", (g 6 0).1, (g 6 0).2.1, (g 6 0).2.2, 0, [], .none, .none, .none, .none, (none ), .none, .none, 0⟩), #[]⟩
def o104 (P : Params) : Obj := ⟨(.type "code"), (none ), (.fields #[(.str "__init__" 298), (.str "InvalidBase.__init__" 299), (.str "/claim/cut.py" 300), (.int 21 0), (.int 2 0), (.int 0 0), (.int 0 0), (.int 3 0), (.ref 99), (.bool true), (.int 181 0), (.ref 100), .none, (.ref 101), (.ref 102), (.ref 103), (.int 304 0), (.int 21 0), (.str "/claim/cut.py" 305)]), #[]⟩
def o105 (P : Params) : Obj := ⟨(.type "function"), (none ), (.func ⟨"__init__", "InvalidBase.__init__", (g 6 0).1, (g 6 0).2.1, (g 6 0).2.2, 3, [⟨"__class__", 93⟩], .none, .none, .none, (.str "enumcraft.errors" 194), (none ), (.ref 104), (.ref 98), 0⟩), #[]⟩
def o106 (P : Params) : Obj := ⟨(.type "tuple"), (none ), (.seq #[(.str "index" 307)] 0), #[]⟩
def o107 (P : Params) : Obj := ⟨(.type "dict"), (none ), (.dict #[⟨(PyData.keyHash P "__module__"), (.str "__module__" 293), (.str "enumcraft.errors" 194)⟩, ⟨(PyData.keyHash P "__firstlineno__"), (.str "__firstlineno__" 297), (.int 19 296)⟩, ⟨(PyData.keyHash P "__init__"), (.str "__init__" 306), (.ref 105)⟩, ⟨(PyData.keyHash P "__static_attributes__"), (.str "__static_attributes__" 308), (.ref 106)⟩, ⟨(PyData.keyHash P "__doc__"), (.str "__doc__" 310), .none⟩] 3), #[]⟩
def o108 (P : Params) : Obj := ⟨(.type "type"), (none ), (.cls ⟨"InvalidBase", [(.ref 31)], [(.ref 108), (.ref 31), (.type "ValueError"), (.type "Exception"), (.type "BaseException"), (.type "object")], 107, "InvalidBase", true, [], [], false, (none ), false⟩), #[(some (.ref 90)), (none ), (some (.str "InvalidBase" 286)), (some (.str "InvalidBase" 294)), (some (.builtin "ValueError.__new__")), (some (.bool true))]⟩
def o109 (P : Params) : Obj := ⟨(.type "super"), (none ), (.fields #[(.ref 108), (.ref 108), (.ref 108)]), #[]⟩
def o110 (P : Params) : Obj := ⟨(.type "builtin_function_or_method"), (none ), (.fields #[(.builtin "object.__init_subclass__"), (.ref 108)]), #[]⟩
def o111 (P : Params) : Obj := ⟨(.type "tuple"), (none ), (.seq #[(.ref 31)] 0), #[]⟩
def o112 (P : Params) : Obj := ⟨(.type "builtin_function_or_method"), (none ), (.fields #[(.builtin "type.__prepare__"), (.type "type")]), #[]⟩
def o113 (P : Params) : Obj := ⟨(.type "dict"), (none ), (.dict #[⟨(PyData.keyHash P "__module__"), (.str "__module__" 320), (.str "enumcraft.errors" 194)⟩, ⟨(PyData.keyHash P "__qualname__"), (.str "__qualname__" 322), (.str "InvalidFamily" 321)⟩, ⟨(PyData.keyHash P "__firstlineno__"), (.str "__firstlineno__" 324), (.int 24 323)⟩, ⟨(PyData.keyHash P "__init__"), (.str "__init__" 333), (.ref 126)⟩, ⟨(PyData.keyHash P "__static_attributes__"), (.str "__static_attributes__" 335), (.ref 127)⟩, ⟨(PyData.keyHash P "__classcell__"), (.str "__classcell__" 336), (.ref 114)⟩] 6), #[]⟩
def o114 (P : Params) : Obj := ⟨(.type "cell"), (none ), (.cell (some (.ref 129))), #[]⟩
def o115 (P : Params) : Obj := ⟨(.type "tuple"), (none ), (.seq #[] 0), #[]⟩
def o116 (P : Params) : Obj := ⟨.none, (none ), (.fields #[(.int 26 0), (.int 4 0), (.ref 125)]), #[]⟩
def o117 (P : Params) : Obj := ⟨(.type "code"), (none ), (.fields #[(.str "InvalidFamily" 315), (.str "InvalidFamily" 316), (.str "/claim/cut.py" 317), (.int 24 0), (.int 0 0), (.int 0 0), (.int 0 0), (.int 0 0), (.ref 115), (.bool false), (.int 181 0), (.ref 116), .none, .none, .none, .none, (.int 318 0), (.int 24 0), (.str "/claim/cut.py" 319)]), #[]⟩
def o118 (P : Params) : Obj := ⟨(.type "frame"), (none ), .plain, #[(some (.ref 117)), (some (.ref 3)), (some (.ref 113)), (none ), (some (.str "enumcraft.errors" 194)), (none ), (some (.ref 0))]⟩
def o119 (P : Params) : Obj := ⟨(.type "tuple"), (none ), (.seq #[(.ref 114)] 0), #[]⟩
def o120 (P : Params) : Obj := ⟨(.type "tuple"), (none ), (.seq #[(.str "__class__" 328)] 0), #[]⟩
def o121 (P : Params) : Obj := ⟨.none, (none ), (.fields #[]), #[]⟩
def o122 (P : Params) : Obj := ⟨(.type "tuple"), (none ), (.seq #[(.str "self" 329), (.str "given" 330)] 0), #[]⟩
def o123 (P : Params) : Obj := ⟨(.type "tuple"), (none ), (.seq #[] 0), #[]⟩
def o124 (P : Params) : Obj := ⟨.none, (none ), (.func ⟨"__init__", "InvalidFamily.__init__", (g 7 0).1, (g 7 0).2.1, (g 7 0).2.2, 0, [], .none, .none, .none, .none, (none ), .none, .none, 0⟩), #[]⟩
def o125 (P : Params) : Obj := ⟨(.type "code"), (none ), (.fields #[(.str "__init__" 325), (.str "InvalidFamily.__init__" 326), (.str "/claim/cut.py" 327), (.int 26 0), (.int 2 0), (.int 0 0), (.int 0 0), (.int 3 0), (.ref 120), (.bool true), (.int 181 0), (.ref 121), .none, (.ref 122), (.ref 123), (.ref 124), (.int 331 0), (.int 26 0), (.str "/claim/cut.py" 332)]), #[]⟩
def o126 (P : Params) : Obj := ⟨(.type "function"), (none ), (.func ⟨"__init__", "InvalidFamily.__init__", (g 7 0).1, (g 7 0).2.1, (g 7 0).2.2, 3, [⟨"__class__", 114⟩], .none, .none, .none, (.str "enumcraft.errors" 194), (none ), (.ref 125), (.ref 119), 0⟩), #[]⟩
def o127 (P : Params) : Obj := ⟨(.type "tuple"), (none ), (.seq #[(.str "given" 334)] 0), #[]⟩
def o128 (P : Params) : Obj := ⟨(.type "dict"), (none ), (.dict #[⟨(PyData.keyHash P "__module__"), (.str "__module__" 320), (.str "enumcraft.errors" 194)⟩, ⟨(PyData.keyHash P "__firstlineno__"), (.str "__firstlineno__" 324), (.int 24 323)⟩, ⟨(PyData.keyHash P "__init__"), (.str "__init__" 333), (.ref 126)⟩, ⟨(PyData.keyHash P "__static_attributes__"), (.str "__static_attributes__" 335), (.ref 127)⟩, ⟨(PyData.keyHash P "__doc__"), (.str "__doc__" 337), .none⟩] 3), #[]⟩
def o129 (P : Params) : Obj := ⟨(.type "type"), (none ), (.cls ⟨"InvalidFamily", [(.ref 31)], [(.ref 129), (.ref 31), (.type "ValueError"), (.type "Exception"), (.type "BaseException"), (.type "object")], 128, "InvalidFamily", true, [], [], false, (none ), false⟩), #[(some (.ref 111)), (none ), (some (.str "InvalidFamily" 313)), (some (.str "InvalidFamily" 321)), (some (.builtin "ValueError.__new__")), (some (.bool true))]⟩
def o130 (P : Params) : Obj := ⟨(.type "super"), (none ), (.fields #[(.ref 129), (.ref 129), (.ref 129)]), #[]⟩
def o131 (P : Params) : Obj := ⟨(.type "builtin_function_or_method"), (none ), (.fields #[(.builtin "object.__init_subclass__"), (.ref 129)]), #[]⟩
def o132 (P : Params) : Obj := ⟨(.type "tuple"), (none ), (.seq #[(.ref 31)] 0), #[]⟩
def o133 (P : Params) : Obj := ⟨(.type "builtin_function_or_method"), (none ), (.fields #[(.builtin "type.__prepare__"), (.type "type")]), #[]⟩
def o134 (P : Params) : Obj := ⟨(.type "dict"), (none ), (.dict #[⟨(PyData.keyHash P "__module__"), (.str "__module__" 347), (.str "enumcraft.errors" 194)⟩, ⟨(PyData.keyHash P "__qualname__"), (.str "__qualname__" 349), (.str "InvalidBoundary" 348)⟩, ⟨(PyData.keyHash P "__firstlineno__"), (.str "__firstlineno__" 351), (.int 29 350)⟩, ⟨(PyData.keyHash P "__init__"), (.str "__init__" 360), (.ref 147)⟩, ⟨(PyData.keyHash P "__static_attributes__"), (.str "__static_attributes__" 362), (.ref 148)⟩, ⟨(PyData.keyHash P "__classcell__"), (.str "__classcell__" 363), (.ref 135)⟩] 6), #[]⟩
def o135 (P : Params) : Obj := ⟨(.type "cell"), (none ), (.cell (some (.ref 150))), #[]⟩
def o136 (P : Params) : Obj := ⟨(.type "tuple"), (none ), (.seq #[] 0), #[]⟩
def o137 (P : Params) : Obj := ⟨.none, (none ), (.fields #[(.int 31 0), (.int 4 0), (.ref 146)]), #[]⟩
def o138 (P : Params) : Obj := ⟨(.type "code"), (none ), (.fields #[(.str "InvalidBoundary" 342), (.str "InvalidBoundary" 343), (.str "/claim/cut.py" 344), (.int 29 0), (.int 0 0), (.int 0 0), (.int 0 0), (.int 0 0), (.ref 136), (.bool false), (.int 181 0), (.ref 137), .none, .none, .none, .none, (.int 345 0), (.int 29 0), (.str "/claim/cut.py" 346)]), #[]⟩
def o139 (P : Params) : Obj := ⟨(.type "frame"), (none ), .plain, #[(some (.ref 138)), (some (.ref 3)), (some (.ref 134)), (none ), (some (.str "enumcraft.errors" 194)), (none ), (some (.ref 0))]⟩
def o140 (P : Params) : Obj := ⟨(.type "tuple"), (none ), (.seq #[(.ref 135)] 0), #[]⟩
def o141 (P : Params) : Obj := ⟨(.type "tuple"), (none ), (.seq #[(.str "__class__" 355)] 0), #[]⟩
def o142 (P : Params) : Obj := ⟨.none, (none ), (.fields #[]), #[]⟩
def o143 (P : Params) : Obj := ⟨(.type "tuple"), (none ), (.seq #[(.str "self" 356), (.str "given" 357)] 0), #[]⟩
def o144 (P : Params) : Obj := ⟨(.type "tuple"), (none ), (.seq #[] 0), #[]⟩
def o145 (P : Params) : Obj := ⟨.none, (none ), (.func ⟨"__init__", "InvalidBoundary.__init__", (g 8 0).1, (g 8 0).2.1, (g 8 0).2.2, 0, [], .none, .none, .none, .none, (none ), .none, .none, 0⟩), #[]⟩
def o146 (P : Params) : Obj := ⟨(.type "code"), (none ), (.fields #[(.str "__init__" 352), (.str "InvalidBoundary.__init__" 353), (.str "/claim/cut.py" 354), (.int 31 0), (.int 2 0), (.int 0 0), (.int 0 0), (.int 3 0), (.ref 141), (.bool true), (.int 181 0), (.ref 142), .none, (.ref 143), (.ref 144), (.ref 145), (.int 358 0), (.int 31 0), (.str "/claim/cut.py" 359)]), #[]⟩
def o147 (P : Params) : Obj := ⟨(.type "function"), (none ), (.func ⟨"__init__", "InvalidBoundary.__init__", (g 8 0).1, (g 8 0).2.1, (g 8 0).2.2, 3, [⟨"__class__", 135⟩], .none, .none, .none, (.str "enumcraft.errors" 194), (none ), (.ref 146), (.ref 140), 0⟩), #[]⟩
def o148 (P : Params) : Obj := ⟨(.type "tuple"), (none ), (.seq #[(.str "given" 361)] 0), #[]⟩
def o149 (P : Params) : Obj := ⟨(.type "dict"), (none ), (.dict #[⟨(PyData.keyHash P "__module__"), (.str "__module__" 347), (.str "enumcraft.errors" 194)⟩, ⟨(PyData.keyHash P "__firstlineno__"), (.str "__firstlineno__" 351), (.int 29 350)⟩, ⟨(PyData.keyHash P "__init__"), (.str "__init__" 360), (.ref 147)⟩, ⟨(PyData.keyHash P "__static_attributes__"), (.str "__static_attributes__" 362), (.ref 148)⟩, ⟨(PyData.keyHash P "__doc__"), (.str "__doc__" 364), .none⟩] 3), #[]⟩
def o150 (P : Params) : Obj := ⟨(.type "type"), (none ), (.cls ⟨"InvalidBoundary", [(.ref 31)], [(.ref 150), (.ref 31), (.type "ValueError"), (.type "Exception"), (.type "BaseException"), (.type "object")], 149, "InvalidBoundary", true, [], [], false, (none ), false⟩), #[(some (.ref 132)), (none ), (some (.str "InvalidBoundary" 340)), (some (.str "InvalidBoundary" 348)), (some (.builtin "ValueError.__new__")), (some (.bool true))]⟩
def o151 (P : Params) : Obj := ⟨(.type "super"), (none ), (.fields #[(.ref 150), (.ref 150), (.ref 150)]), #[]⟩
def o152 (P : Params) : Obj := ⟨(.type "builtin_function_or_method"), (none ), (.fields #[(.builtin "object.__init_subclass__"), (.ref 150)]), #[]⟩
def o153 (P : Params) : Obj := ⟨(.type "tuple"), (none ), (.seq #[(.ref 31)] 0), #[]⟩
def o154 (P : Params) : Obj := ⟨(.type "builtin_function_or_method"), (none ), (.fields #[(.builtin "type.__prepare__"), (.type "type")]), #[]⟩
def o155 (P : Params) : Obj := ⟨(.type "dict"), (none ), (.dict #[⟨(PyData.keyHash P "__module__"), (.str "__module__" 374), (.str "enumcraft.errors" 194)⟩, ⟨(PyData.keyHash P "__qualname__"), (.str "__qualname__" 376), (.str "InvalidStart" 375)⟩, ⟨(PyData.keyHash P "__firstlineno__"), (.str "__firstlineno__" 378), (.int 34 377)⟩, ⟨(PyData.keyHash P "__init__"), (.str "__init__" 387), (.ref 168)⟩, ⟨(PyData.keyHash P "__static_attributes__"), (.str "__static_attributes__" 389), (.ref 169)⟩, ⟨(PyData.keyHash P "__classcell__"), (.str "__classcell__" 390), (.ref 156)⟩] 6), #[]⟩
def o156 (P : Params) : Obj := ⟨(.type "cell"), (none ), (.cell (some (.ref 171))), #[]⟩
def o157 (P : Params) : Obj := ⟨(.type "tuple"), (none ), (.seq #[] 0), #[]⟩
def o158 (P : Params) : Obj := ⟨.none, (none ), (.fields #[(.int 36 0), (.int 4 0), (.ref 167)]), #[]⟩
def o159 (P : Params) : Obj := ⟨(.type "code"), (none ), (.fields #[(.str "InvalidStart" 369), (.str "InvalidStart" 370), (.str "/claim/cut.py" 371), (.int 34 0), (.int 0 0), (.int 0 0), (.int 0 0), (.int 0 0), (.ref 157), (.bool false), (.int 181 0), (.ref 158), .none, .none, .none, .none, (.int 372 0), (.int 34 0), (.str "/claim/cut.py" 373)]), #[]⟩
def o160 (P : Params) : Obj := ⟨(.type "frame"), (none ), .plain, #[(some (.ref 159)), (some (.ref 3)), (some (.ref 155)), (none ), (some (.str "enumcraft.errors" 194)), (none ), (some (.ref 0))]⟩
def o161 (P : Params) : Obj := ⟨(.type "tuple"), (none ), (.seq #[(.ref 156)] 0), #[]⟩
def o162 (P : Params) : Obj := ⟨(.type "tuple"), (none ), (.seq #[(.str "__class__" 382)] 0), #[]⟩
def o163 (P : Params) : Obj := ⟨.none, (none ), (.fields #[]), #[]⟩
def o164 (P : Params) : Obj := ⟨(.type "tuple"), (none ), (.seq #[(.str "self" 383), (.str "given" 384)] 0), #[]⟩
def o165 (P : Params) : Obj := ⟨(.type "tuple"), (none ), (.seq #[] 0), #[]⟩
def o166 (P : Params) : Obj := ⟨.none, (none ), (.func ⟨"__init__", "InvalidStart.__init__", (g 9 0).1, (g 9 0).2.1, (g 9 0).2.2, 0, [], .none, .none, .none, .none, (none ), .none, .none, 0⟩), #[]⟩
def o167 (P : Params) : Obj := ⟨(.type "code"), (none ), (.fields #[(.str "__init__" 379), (.str "InvalidStart.__init__" 380), (.str "/claim/cut.py" 381), (.int 36 0), (.int 2 0), (.int 0 0), (.int 0 0), (.int 3 0), (.ref 162), (.bool true), (.int 181 0), (.ref 163), .none, (.ref 164), (.ref 165), (.ref 166), (.int 385 0), (.int 36 0), (.str "/claim/cut.py" 386)]), #[]⟩
def o168 (P : Params) : Obj := ⟨(.type "function"), (none ), (.func ⟨"__init__", "InvalidStart.__init__", (g 9 0).1, (g 9 0).2.1, (g 9 0).2.2, 3, [⟨"__class__", 156⟩], .none, .none, .none, (.str "enumcraft.errors" 194), (none ), (.ref 167), (.ref 161), 0⟩), #[]⟩
def o169 (P : Params) : Obj := ⟨(.type "tuple"), (none ), (.seq #[(.str "given" 388)] 0), #[]⟩
def o170 (P : Params) : Obj := ⟨(.type "dict"), (none ), (.dict #[⟨(PyData.keyHash P "__module__"), (.str "__module__" 374), (.str "enumcraft.errors" 194)⟩, ⟨(PyData.keyHash P "__firstlineno__"), (.str "__firstlineno__" 378), (.int 34 377)⟩, ⟨(PyData.keyHash P "__init__"), (.str "__init__" 387), (.ref 168)⟩, ⟨(PyData.keyHash P "__static_attributes__"), (.str "__static_attributes__" 389), (.ref 169)⟩, ⟨(PyData.keyHash P "__doc__"), (.str "__doc__" 391), .none⟩] 3), #[]⟩
def o171 (P : Params) : Obj := ⟨(.type "type"), (none ), (.cls ⟨"InvalidStart", [(.ref 31)], [(.ref 171), (.ref 31), (.type "ValueError"), (.type "Exception"), (.type "BaseException"), (.type "object")], 170, "InvalidStart", true, [], [], false, (none ), false⟩), #[(some (.ref 153)), (none ), (some (.str "InvalidStart" 367)), (some (.str "InvalidStart" 375)), (some (.builtin "ValueError.__new__")), (some (.bool true))]⟩
def o172 (P : Params) : Obj := ⟨(.type "super"), (none ), (.fields #[(.ref 171), (.ref 171), (.ref 171)]), #[]⟩
def o173 (P : Params) : Obj := ⟨(.type "builtin_function_or_method"), (none ), (.fields #[(.builtin "object.__init_subclass__"), (.ref 171)]), #[]⟩
def o174 (P : Params) : Obj := ⟨(.type "tuple"), (none ), (.seq #[(.ref 31)] 0), #[]⟩
def o175 (P : Params) : Obj := ⟨(.type "builtin_function_or_method"), (none ), (.fields #[(.builtin "type.__prepare__"), (.type "type")]), #[]⟩
def o176 (P : Params) : Obj := ⟨(.type "dict"), (none ), (.dict #[⟨(PyData.keyHash P "__module__"), (.str "__module__" 401), (.str "enumcraft.errors" 194)⟩, ⟨(PyData.keyHash P "__qualname__"), (.str "__qualname__" 403), (.str "InvalidCheck" 402)⟩, ⟨(PyData.keyHash P "__firstlineno__"), (.str "__firstlineno__" 405), (.int 39 404)⟩, ⟨(PyData.keyHash P "__init__"), (.str "__init__" 414), (.ref 189)⟩, ⟨(PyData.keyHash P "__static_attributes__"), (.str "__static_attributes__" 416), (.ref 190)⟩, ⟨(PyData.keyHash P "__classcell__"), (.str "__classcell__" 417), (.ref 177)⟩] 6), #[]⟩
def o177 (P : Params) : Obj := ⟨(.type "cell"), (none ), (.cell (some (.ref 192))), #[]⟩
def o178 (P : Params) : Obj := ⟨(.type "tuple"), (none ), (.seq #[] 0), #[]⟩
def o179 (P : Params) : Obj := ⟨.none, (none ), (.fields #[(.int 41 0), (.int 4 0), (.ref 188)]), #[]⟩
def o180 (P : Params) : Obj := ⟨(.type "code"), (none ), (.fields #[(.str "InvalidCheck" 396), (.str "InvalidCheck" 397), (.str "/claim/cut.py" 398), (.int 39 0), (.int 0 0), (.int 0 0), (.int 0 0), (.int 0 0), (.ref 178), (.bool false), (.int 181 0), (.ref 179), .none, .none, .none, .none, (.int 399 0), (.int 39 0), (.str "/claim/cut.py" 400)]), #[]⟩
def o181 (P : Params) : Obj := ⟨(.type "frame"), (none ), .plain, #[(some (.ref 180)), (some (.ref 3)), (some (.ref 176)), (none ), (some (.str "enumcraft.errors" 194)), (none ), (some (.ref 0))]⟩
def o182 (P : Params) : Obj := ⟨(.type "tuple"), (none ), (.seq #[(.ref 177)] 0), #[]⟩
def o183 (P : Params) : Obj := ⟨(.type "tuple"), (none ), (.seq #[(.str "__class__" 409)] 0), #[]⟩
def o184 (P : Params) : Obj := ⟨.none, (none ), (.fields #[]), #[]⟩
def o185 (P : Params) : Obj := ⟨(.type "tuple"), (none ), (.seq #[(.str "self" 410), (.str "index" 411)] 0), #[]⟩
def o186 (P : Params) : Obj := ⟨(.type "tuple"), (none ), (.seq #[] 0), #[]⟩
def o187 (P : Params) : Obj := ⟨.none, (none ), (.func ⟨"__init__", "InvalidCheck.__init__", (g 10 0).1, (g 10 0).2.1, (g 10 0).2.2, 0, [], .none, .none, .none, .none, (none ), .none, .none, 0⟩), #[]⟩
def o188 (P : Params) : Obj := ⟨(.type "code"), (none ), (.fields #[(.str "__init__" 406), (.str "InvalidCheck.__init__" 407), (.str "/claim/cut.py" 408), (.int 41 0), (.int 2 0), (.int 0 0), (.int 0 0), (.int 3 0), (.ref 183), (.bool true), (.int 181 0), (.ref 184), .none, (.ref 185), (.ref 186), (.ref 187), (.int 412 0), (.int 41 0), (.str "/claim/cut.py" 413)]), #[]⟩
def o189 (P : Params) : Obj := ⟨(.type "function"), (none ), (.func ⟨"__init__", "InvalidCheck.__init__", (g 10 0).1, (g 10 0).2.1, (g 10 0).2.2, 3, [⟨"__class__", 177⟩], .none, .none, .none, (.str "enumcraft.errors" 194), (none ), (.ref 188), (.ref 182), 0⟩), #[]⟩
def o190 (P : Params) : Obj := ⟨(.type "tuple"), (none ), (.seq #[(.str "index" 415)] 0), #[]⟩
def o191 (P : Params) : Obj := ⟨(.type "dict"), (none ), (.dict #[⟨(PyData.keyHash P "__module__"), (.str "__module__" 401), (.str "enumcraft.errors" 194)⟩, ⟨(PyData.keyHash P "__firstlineno__"), (.str "__firstlineno__" 405), (.int 39 404)⟩, ⟨(PyData.keyHash P "__init__"), (.str "__init__" 414), (.ref 189)⟩, ⟨(PyData.keyHash P "__static_attributes__"), (.str "__static_attributes__" 416), (.ref 190)⟩, ⟨(PyData.keyHash P "__doc__"), (.str "__doc__" 418), .none⟩] 3), #[]⟩
def o192 (P : Params) : Obj := ⟨(.type "type"), (none ), (.cls ⟨"InvalidCheck", [(.ref 31)], [(.ref 192), (.ref 31), (.type "ValueError"), (.type "Exception"), (.type "BaseException"), (.type "object")], 191, "InvalidCheck", true, [], [], false, (none ), false⟩), #[(some (.ref 174)), (none ), (some (.str "InvalidCheck" 394)), (some (.str "InvalidCheck" 402)), (some (.builtin "ValueError.__new__")), (some (.bool true))]⟩
def o193 (P : Params) : Obj := ⟨(.type "super"), (none ), (.fields #[(.ref 192), (.ref 192), (.ref 192)]), #[]⟩
def o194 (P : Params) : Obj := ⟨(.type "builtin_function_or_method"), (none ), (.fields #[(.builtin "object.__init_subclass__"), (.ref 192)]), #[]⟩
def o195 (P : Params) : Obj := ⟨(.type "tuple"), (none ), (.seq #[(.ref 31)] 0), #[]⟩
def o196 (P : Params) : Obj := ⟨(.type "builtin_function_or_method"), (none ), (.fields #[(.builtin "type.__prepare__"), (.type "type")]), #[]⟩
def o197 (P : Params) : Obj := ⟨(.type "dict"), (none ), (.dict #[⟨(PyData.keyHash P "__module__"), (.str "__module__" 428), (.str "enumcraft.errors" 194)⟩, ⟨(PyData.keyHash P "__qualname__"), (.str "__qualname__" 430), (.str "HasMembers" 429)⟩, ⟨(PyData.keyHash P "__firstlineno__"), (.str "__firstlineno__" 432), (.int 44 431)⟩, ⟨(PyData.keyHash P "__init__"), (.str "__init__" 441), (.ref 210)⟩, ⟨(PyData.keyHash P "__static_attributes__"), (.str "__static_attributes__" 443), (.ref 211)⟩, ⟨(PyData.keyHash P "__classcell__"), (.str "__classcell__" 444), (.ref 198)⟩] 6), #[]⟩
def o198 (P : Params) : Obj := ⟨(.type "cell"), (none ), (.cell (some (.ref 213))), #[]⟩
def o199 (P : Params) : Obj := ⟨(.type "tuple"), (none ), (.seq #[] 0), #[]⟩
def o200 (P : Params) : Obj := ⟨.none, (none ), (.fields #[(.int 46 0), (.int 4 0), (.ref 209)]), #[]⟩
def o201 (P : Params) : Obj := ⟨(.type "code"), (none ), (.fields #[(.str "HasMembers" 423), (.str "HasMembers" 424), (.str "/claim/cut.py" 425), (.int 44 0), (.int 0 0), (.int 0 0), (.int 0 0), (.int 0 0), (.ref 199), (.bool false), (.int 181 0), (.ref 200), .none, .none, .none, .none, (.int 426 0), (.int 44 0), (.str "/claim/cut.py" 427)]), #[]⟩
def o202 (P : Params) : Obj := ⟨(.type "frame"), (none ), .plain, #[(some (.ref 201)), (some (.ref 3)), (some (.ref 197)), (none ), (some (.str "enumcraft.errors" 194)), (none ), (some (.ref 0))]⟩
def o203 (P : Params) : Obj := ⟨(.type "tuple"), (none ), (.seq #[(.ref 198)] 0), #[]⟩
def o204 (P : Params) : Obj := ⟨(.type "tuple"), (none ), (.seq #[(.str "__class__" 436)] 0), #[]⟩
def o205 (P : Params) : Obj := ⟨.none, (none ), (.fields #[]), #[]⟩
def o206 (P : Params) : Obj := ⟨(.type "tuple"), (none ), (.seq #[(.str "self" 437), (.str "index" 438)] 0), #[]⟩
def o207 (P : Params) : Obj := ⟨(.type "tuple"), (none ), (.seq #[] 0), #[]⟩
def o208 (P : Params) : Obj := ⟨.none, (none ), (.func ⟨"__init__", "HasMembers.__init__", (g 11 0).1, (g 11 0).2.1, (g 11 0).2.2, 0, [], .none, .none, .none, .none, (none ), .none, .none, 0⟩), #[]⟩
def o209 (P : Params) : Obj := ⟨(.type "code"), (none ), (.fields #[(.str "__init__" 433), (.str "HasMembers.__init__" 434), (.str "/claim/cut.py" 435), (.int 46 0), (.int 2 0), (.int 0 0), (.int 0 0), (.int 3 0), (.ref 204), (.bool true), (.int 181 0), (.ref 205), .none, (.ref 206), (.ref 207), (.ref 208), (.int 439 0), (.int 46 0), (.str "/claim/cut.py" 440)]), #[]⟩
def o210 (P : Params) : Obj := ⟨(.type "function"), (none ), (.func ⟨"__init__", "HasMembers.__init__", (g 11 0).1, (g 11 0).2.1, (g 11 0).2.2, 3, [⟨"__class__", 198⟩], .none, .none, .none, (.str "enumcraft.errors" 194), (none ), (.ref 209), (.ref 203), 0⟩), #[]⟩
def o211 (P : Params) : Obj := ⟨(.type "tuple"), (none ), (.seq #[(.str "index" 442)] 0), #[]⟩
def o212 (P : Params) : Obj := ⟨(.type "dict"), (none ), (.dict #[⟨(PyData.keyHash P "__module__"), (.str "__module__" 428), (.str "enumcraft.errors" 194)⟩, ⟨(PyData.keyHash P "__firstlineno__"), (.str "__firstlineno__" 432), (.int 44 431)⟩, ⟨(PyData.keyHash P "__init__"), (.str "__init__" 441), (.ref 210)⟩, ⟨(PyData.keyHash P "__static_attributes__"), (.str "__static_attributes__" 443), (.ref 211)⟩, ⟨(PyData.keyHash P "__doc__"), (.str "__doc__" 445), .none⟩] 3), #[]⟩
def o213 (P : Params) : Obj := ⟨(.type "type"), (none ), (.cls ⟨"HasMembers", [(.ref 31)], [(.ref 213), (.ref 31), (.type "ValueError"), (.type "Exception"), (.type "BaseException"), (.type "object")], 212, "HasMembers", true, [], [], false, (none ), false⟩), #[(some (.ref 195)), (none ), (some (.str "HasMembers" 421)), (some (.str "HasMembers" 429)), (some (.builtin "ValueError.__new__")), (some (.bool true))]⟩
def o214 (P : Params) : Obj := ⟨(.type "super"), (none ), (.fields #[(.ref 213), (.ref 213), (.ref 213)]), #[]⟩
def o215 (P : Params) : Obj := ⟨(.type "builtin_function_or_method"), (none ), (.fields #[(.builtin "object.__init_subclass__"), (.ref 213)]), #[]⟩
def o216 (P : Params) : Obj := ⟨(.type "tuple"), (none ), (.seq #[(.ref 31)] 0), #[]⟩
def o217 (P : Params) : Obj := ⟨(.type "builtin_function_or_method"), (none ), (.fields #[(.builtin "type.__prepare__"), (.type "type")]), #[]⟩
def o218 (P : Params) : Obj := ⟨(.type "dict"), (none ), (.dict #[⟨(PyData.keyHash P "__module__"), (.str "__module__" 455), (.str "enumcraft.errors" 194)⟩, ⟨(PyData.keyHash P "__qualname__"), (.str "__qualname__" 457), (.str "FamilyConflict" 456)⟩, ⟨(PyData.keyHash P "__firstlineno__"), (.str "__firstlineno__" 459), (.int 49 458)⟩, ⟨(PyData.keyHash P "__init__"), (.str "__init__" 468), (.ref 231)⟩, ⟨(PyData.keyHash P "__static_attributes__"), (.str "__static_attributes__" 470), (.ref 232)⟩, ⟨(PyData.keyHash P "__classcell__"), (.str "__classcell__" 471), (.ref 219)⟩] 6), #[]⟩
def o219 (P : Params) : Obj := ⟨(.type "cell"), (none ), (.cell (some (.ref 234))), #[]⟩
def o220 (P : Params) : Obj := ⟨(.type "tuple"), (none ), (.seq #[] 0), #[]⟩
def o221 (P : Params) : Obj := ⟨.none, (none ), (.fields #[(.int 51 0), (.int 4 0), (.ref 230)]), #[]⟩
def o222 (P : Params) : Obj := ⟨(.type "code"), (none ), (.fields #[(.str "FamilyConflict" 450), (.str "FamilyConflict" 451), (.str "/claim/cut.py" 452), (.int 49 0), (.int 0 0), (.int 0 0), (.int 0 0), (.int 0 0), (.ref 220), (.bool false), (.int 181 0), (.ref 221), .none, .none, .none, .none, (.int 453 0), (.int 49 0), (.str "/claim/cut.py" 454)]), #[]⟩
def o223 (P : Params) : Obj := ⟨(.type "frame"), (none ), .plain, #[(some (.ref 222)), (some (.ref 3)), (some (.ref 218)), (none ), (some (.str "enumcraft.errors" 194)), (none ), (some (.ref 0))]⟩
def o224 (P : Params) : Obj := ⟨(.type "tuple"), (none ), (.seq #[(.ref 219)] 0), #[]⟩
def o225 (P : Params) : Obj := ⟨(.type "tuple"), (none ), (.seq #[(.str "__class__" 463)] 0), #[]⟩
def o226 (P : Params) : Obj := ⟨.none, (none ), (.fields #[]), #[]⟩
def o227 (P : Params) : Obj := ⟨(.type "tuple"), (none ), (.seq #[(.str "self" 464), (.str "index" 465)] 0), #[]⟩
def o228 (P : Params) : Obj := ⟨(.type "tuple"), (none ), (.seq #[] 0), #[]⟩
def o229 (P : Params) : Obj := ⟨.none, (none ), (.func ⟨"__init__", "FamilyConflict.__init__", (g 12 0).1, (g 12 0).2.1, (g 12 0).2.2, 0, [], .none, .none, .none, .none, (none ), .none, .none, 0⟩), #[]⟩
def o230 (P : Params) : Obj := ⟨(.type "code"), (none ), (.fields #[(.str "__init__" 460), (.str "FamilyConflict.__init__" 461), (.str "/claim/cut.py" 462), (.int 51 0), (.int 2 0), (.int 0 0), (.int 0 0), (.int 3 0), (.ref 225), (.bool true), (.int 181 0), (.ref 226), .none, (.ref 227), (.ref 228), (.ref 229), (.int 466 0), (.int 51 0), (.str "/claim/cut.py" 467)]), #[]⟩
def o231 (P : Params) : Obj := ⟨(.type "function"), (none ), (.func ⟨"__init__", "FamilyConflict.__init__", (g 12 0).1, (g 12 0).2.1, (g 12 0).2.2, 3, [⟨"__class__", 219⟩], .none, .none, .none, (.str "enumcraft.errors" 194), (none ), (.ref 230), (.ref 224), 0⟩), #[]⟩
def o232 (P : Params) : Obj := ⟨(.type "tuple"), (none ), (.seq #[(.str "index" 469)] 0), #[]⟩
def o233 (P : Params) : Obj := ⟨(.type "dict"), (none ), (.dict #[⟨(PyData.keyHash P "__module__"), (.str "__module__" 455), (.str "enumcraft.errors" 194)⟩, ⟨(PyData.keyHash P "__firstlineno__"), (.str "__firstlineno__" 459), (.int 49 458)⟩, ⟨(PyData.keyHash P "__init__"), (.str "__init__" 468), (.ref 231)⟩, ⟨(PyData.keyHash P "__static_attributes__"), (.str "__static_attributes__" 470), (.ref 232)⟩, ⟨(PyData.keyHash P "__doc__"), (.str "__doc__" 472), .none⟩] 3), #[]⟩
def o234 (P : Params) : Obj := ⟨(.type "type"), (none ), (.cls ⟨"FamilyConflict", [(.ref 31)], [(.ref 234), (.ref 31), (.type "ValueError"), (.type "Exception"), (.type "BaseException"), (.type "object")], 233, "FamilyConflict", true, [], [], false, (none ), false⟩), #[(some (.ref 216)), (none ), (some (.str "FamilyConflict" 448)), (some (.str "FamilyConflict" 456)), (some (.builtin "ValueError.__new__")), (some (.bool true))]⟩
def o235 (P : Params) : Obj := ⟨(.type "super"), (none ), (.fields #[(.ref 234), (.ref 234), (.ref 234)]), #[]⟩
def o236 (P : Params) : Obj := ⟨(.type "builtin_function_or_method"), (none ), (.fields #[(.builtin "object.__init_subclass__"), (.ref 234)]), #[]⟩
def o237 (P : Params) : Obj := ⟨(.type "tuple"), (none ), (.seq #[(.ref 31)] 0), #[]⟩
def o238 (P : Params) : Obj := ⟨(.type "builtin_function_or_method"), (none ), (.fields #[(.builtin "type.__prepare__"), (.type "type")]), #[]⟩
def o239 (P : Params) : Obj := ⟨(.type "dict"), (none ), (.dict #[⟨(PyData.keyHash P "__module__"), (.str "__module__" 482), (.str "enumcraft.errors" 194)⟩, ⟨(PyData.keyHash P "__qualname__"), (.str "__qualname__" 484), (.str "BoundaryNotAllowed" 483)⟩, ⟨(PyData.keyHash P "__firstlineno__"), (.str "__firstlineno__" 486), (.int 54 485)⟩, ⟨(PyData.keyHash P "__init__"), (.str "__init__" 495), (.ref 252)⟩, ⟨(PyData.keyHash P "__static_attributes__"), (.str "__static_attributes__" 497), (.ref 253)⟩, ⟨(PyData.keyHash P "__classcell__"), (.str "__classcell__" 498), (.ref 240)⟩] 6), #[]⟩
def o240 (P : Params) : Obj := ⟨(.type "cell"), (none ), (.cell (some (.ref 255))), #[]⟩
def o241 (P : Params) : Obj := ⟨(.type "tuple"), (none ), (.seq #[] 0), #[]⟩
def o242 (P : Params) : Obj := ⟨.none, (none ), (.fields #[(.int 56 0), (.int 4 0), (.ref 251)]), #[]⟩
def o243 (P : Params) : Obj := ⟨(.type "code"), (none ), (.fields #[(.str "BoundaryNotAllowed" 477), (.str "BoundaryNotAllowed" 478), (.str "/claim/cut.py" 479), (.int 54 0), (.int 0 0), (.int 0 0), (.int 0 0), (.int 0 0), (.ref 241), (.bool false), (.int 181 0), (.ref 242), .none, .none, .none, .none, (.int 480 0), (.int 54 0), (.str "/claim/cut.py" 481)]), #[]⟩
def o244 (P : Params) : Obj := ⟨(.type "frame"), (none ), .plain, #[(some (.ref 243)), (some (.ref 3)), (some (.ref 239)), (none ), (some (.str "enumcraft.errors" 194)), (none ), (some (.ref 0))]⟩
def o245 (P : Params) : Obj := ⟨(.type "tuple"), (none ), (.seq #[(.ref 240)] 0), #[]⟩
def o246 (P : Params) : Obj := ⟨(.type "tuple"), (none ), (.seq #[(.str "__class__" 490)] 0), #[]⟩
def o247 (P : Params) : Obj := ⟨.none, (none ), (.fields #[]), #[]⟩
def o248 (P : Params) : Obj := ⟨(.type "tuple"), (none ), (.seq #[(.str "self" 491), (.str "given" 492)] 0), #[]⟩
def o249 (P : Params) : Obj := ⟨(.type "tuple"), (none ), (.seq #[] 0), #[]⟩
def o250 (P : Params) : Obj := ⟨.none, (none ), (.func ⟨"__init__", "BoundaryNotAllowed.__init__", (g 13 0).1, (g 13 0).2.1, (g 13 0).2.2, 0, [], .none, .none, .none, .none, (none ), .none, .none, 0⟩), #[]⟩
def o251 (P : Params) : Obj := ⟨(.type "code"), (none ), (.fields #[(.str "__init__" 487), (.str "BoundaryNotAllowed.__init__" 488), (.str "/claim/cut.py" 489), (.int 56 0), (.int 2 0), (.int 0 0), (.int 0 0), (.int 3 0), (.ref 246), (.bool true), (.int 181 0), (.ref 247), .none, (.ref 248), (.ref 249), (.ref 250), (.int 493 0), (.int 56 0), (.str "/claim/cut.py" 494)]), #[]⟩
def o252 (P : Params) : Obj := ⟨(.type "function"), (none ), (.func ⟨"__init__", "BoundaryNotAllowed.__init__", (g 13 0).1, (g 13 0).2.1, (g 13 0).2.2, 3, [⟨"__class__", 240⟩], .none, .none, .none, (.str "enumcraft.errors" 194), (none ), (.ref 251), (.ref 245), 0⟩), #[]⟩
def o253 (P : Params) : Obj := ⟨(.type "tuple"), (none ), (.seq #[(.str "given" 496)] 0), #[]⟩
def o254 (P : Params) : Obj := ⟨(.type "dict"), (none ), (.dict #[⟨(PyData.keyHash P "__module__"), (.str "__module__" 482), (.str "enumcraft.errors" 194)⟩, ⟨(PyData.keyHash P "__firstlineno__"), (.str "__firstlineno__" 486), (.int 54 485)⟩, ⟨(PyData.keyHash P "__init__"), (.str "__init__" 495), (.ref 252)⟩, ⟨(PyData.keyHash P "__static_attributes__"), (.str "__static_attributes__" 497), (.ref 253)⟩, ⟨(PyData.keyHash P "__doc__"), (.str "__doc__" 499), .none⟩] 3), #[]⟩
def o255 (P : Params) : Obj := ⟨(.type "type"), (none ), (.cls ⟨"BoundaryNotAllowed", [(.ref 31)], [(.ref 255), (.ref 31), (.type "ValueError"), (.type "Exception"), (.type "BaseException"), (.type "object")], 254, "BoundaryNotAllowed", true, [], [], false, (none ), false⟩), #[(some (.ref 237)), (none ), (some (.str "BoundaryNotAllowed" 475)), (some (.str "BoundaryNotAllowed" 483)), (some (.builtin "ValueError.__new__")), (some (.bool true))]⟩
def o256 (P : Params) : Obj := ⟨(.type "super"), (none ), (.fields #[(.ref 255), (.ref 255), (.ref 255)]), #[]⟩
def o257 (P : Params) : Obj := ⟨(.type "builtin_function_or_method"), (none ), (.fields #[(.builtin "object.__init_subclass__"), (.ref 255)]), #[]⟩
def o258 (P : Params) : Obj := ⟨(.type "tuple"), (none ), (.seq #[(.ref 31)] 0), #[]⟩
def o259 (P : Params) : Obj := ⟨(.type "builtin_function_or_method"), (none ), (.fields #[(.builtin "type.__prepare__"), (.type "type")]), #[]⟩
def o260 (P : Params) : Obj := ⟨(.type "dict"), (none ), (.dict #[⟨(PyData.keyHash P "__module__"), (.str "__module__" 509), (.str "enumcraft.errors" 194)⟩, ⟨(PyData.keyHash P "__qualname__"), (.str "__qualname__" 511), (.str "ReservedName" 510)⟩, ⟨(PyData.keyHash P "__firstlineno__"), (.str "__firstlineno__" 513), (.int 59 512)⟩, ⟨(PyData.keyHash P "__init__"), (.str "__init__" 522), (.ref 273)⟩, ⟨(PyData.keyHash P "__static_attributes__"), (.str "__static_attributes__" 524), (.ref 274)⟩, ⟨(PyData.keyHash P "__classcell__"), (.str "__classcell__" 525), (.ref 261)⟩] 6), #[]⟩
def o261 (P : Params) : Obj := ⟨(.type "cell"), (none ), (.cell (some (.ref 276))), #[]⟩
def o262 (P : Params) : Obj := ⟨(.type "tuple"), (none ), (.seq #[] 0), #[]⟩
def o263 (P : Params) : Obj := ⟨.none, (none ), (.fields #[(.int 61 0), (.int 4 0), (.ref 272)]), #[]⟩
def o264 (P : Params) : Obj := ⟨(.type "code"), (none ), (.fields #[(.str "ReservedName" 504), (.str "ReservedName" 505), (.str "/claim/cut.py" 506), (.int 59 0), (.int 0 0), (.int 0 0), (.int 0 0), (.int 0 0), (.ref 262), (.bool false), (.int 181 0), (.ref 263), .none, .none, .none, .none, (.int 507 0), (.int 59 0), (.str "/claim/cut.py" 508)]), #[]⟩
def o265 (P : Params) : Obj := ⟨(.type "frame"), (none ), .plain, #[(some (.ref 264)), (some (.ref 3)), (some (.ref 260)), (none ), (some (.str "enumcraft.errors" 194)), (none ), (some (.ref 0))]⟩
def o266 (P : Params) : Obj := ⟨(.type "tuple"), (none ), (.seq #[(.ref 261)] 0), #[]⟩
def o267 (P : Params) : Obj := ⟨(.type "tuple"), (none ), (.seq #[(.str "__class__" 517)] 0), #[]⟩
def o268 (P : Params) : Obj := ⟨.none, (none ), (.fields #[]), #[]⟩
def o269 (P : Params) : Obj := ⟨(.type "tuple"), (none ), (.seq #[(.str "self" 518), (.str "word" 519)] 0), #[]⟩
def o270 (P : Params) : Obj := ⟨(.type "tuple"), (none ), (.seq #[] 0), #[]⟩
def o271 (P : Params) : Obj := ⟨.none, (none ), (.func ⟨"__init__", "ReservedName.__init__", (g 14 0).1, (g 14 0).2.1, (g 14 0).2.2, 0, [], .none, .none, .none, .none, (none ), .none, .none, 0⟩), #[]⟩
def o272 (P : Params) : Obj := ⟨(.type "code"), (none ), (.fields #[(.str "__init__" 514), (.str "ReservedName.__init__" 515), (.str "/claim/cut.py" 516), (.int 61 0), (.int 2 0), (.int 0 0), (.int 0 0), (.int 3 0), (.ref 267), (.bool true), (.int 181 0), (.ref 268), .none, (.ref 269), (.ref 270), (.ref 271), (.int 520 0), (.int 61 0), (.str "/claim/cut.py" 521)]), #[]⟩
def o273 (P : Params) : Obj := ⟨(.type "function"), (none ), (.func ⟨"__init__", "ReservedName.__init__", (g 14 0).1, (g 14 0).2.1, (g 14 0).2.2, 3, [⟨"__class__", 261⟩], .none, .none, .none, (.str "enumcraft.errors" 194), (none ), (.ref 272), (.ref 266), 0⟩), #[]⟩
def o274 (P : Params) : Obj := ⟨(.type "tuple"), (none ), (.seq #[(.str "word" 523)] 0), #[]⟩
def o275 (P : Params) : Obj := ⟨(.type "dict"), (none ), (.dict #[⟨(PyData.keyHash P "__module__"), (.str "__module__" 509), (.str "enumcraft.errors" 194)⟩, ⟨(PyData.keyHash P "__firstlineno__"), (.str "__firstlineno__" 513), (.int 59 512)⟩, ⟨(PyData.keyHash P "__init__"), (.str "__init__" 522), (.ref 273)⟩, ⟨(PyData.keyHash P "__static_attributes__"), (.str "__static_attributes__" 524), (.ref 274)⟩, ⟨(PyData.keyHash P "__doc__"), (.str "__doc__" 526), .none⟩] 3), #[]⟩
def o276 (P : Params) : Obj := ⟨(.type "type"), (none ), (.cls ⟨"ReservedName", [(.ref 31)], [(.ref 276), (.ref 31), (.type "ValueError"), (.type "Exception"), (.type "BaseException"), (.type "object")], 275, "ReservedName", true, [], [], false, (none ), false⟩), #[(some (.ref 258)), (none ), (some (.str "ReservedName" 502)), (some (.str "ReservedName" 510)), (some (.builtin "ValueError.__new__")), (some (.bool true))]⟩
def o277 (P : Params) : Obj := ⟨(.type "super"), (none ), (.fields #[(.ref 276), (.ref 276), (.ref 276)]), #[]⟩
def o278 (P : Params) : Obj := ⟨(.type "builtin_function_or_method"), (none ), (.fields #[(.builtin "object.__init_subclass__"), (.ref 276)]), #[]⟩
def o279 (P : Params) : Obj := ⟨(.type "tuple"), (none ), (.seq #[(.ref 31)] 0), #[]⟩
def o280 (P : Params) : Obj := ⟨(.type "builtin_function_or_method"), (none ), (.fields #[(.builtin "type.__prepare__"), (.type "type")]), #[]⟩
def o281 (P : Params) : Obj := ⟨(.type "dict"), (none ), (.dict #[⟨(PyData.keyHash P "__module__"), (.str "__module__" 536), (.str "enumcraft.errors" 194)⟩, ⟨(PyData.keyHash P "__qualname__"), (.str "__qualname__" 538), (.str "NameTaken" 537)⟩, ⟨(PyData.keyHash P "__firstlineno__"), (.str "__firstlineno__" 540), (.int 64 539)⟩, ⟨(PyData.keyHash P "__init__"), (.str "__init__" 549), (.ref 294)⟩, ⟨(PyData.keyHash P "__static_attributes__"), (.str "__static_attributes__" 551), (.ref 295)⟩, ⟨(PyData.keyHash P "__classcell__"), (.str "__classcell__" 552), (.ref 282)⟩] 6), #[]⟩
def o282 (P : Params) : Obj := ⟨(.type "cell"), (none ), (.cell (some (.ref 297))), #[]⟩
def o283 (P : Params) : Obj := ⟨(.type "tuple"), (none ), (.seq #[] 0), #[]⟩
def o284 (P : Params) : Obj := ⟨.none, (none ), (.fields #[(.int 66 0), (.int 4 0), (.ref 293)]), #[]⟩
def o285 (P : Params) : Obj := ⟨(.type "code"), (none ), (.fields #[(.str "NameTaken" 531), (.str "NameTaken" 532), (.str "/claim/cut.py" 533), (.int 64 0), (.int 0 0), (.int 0 0), (.int 0 0), (.int 0 0), (.ref 283), (.bool false), (.int 181 0), (.ref 284), .none, .none, .none, .none, (.int 534 0), (.int 64 0), (.str "/claim/cut.py" 535)]), #[]⟩
def o286 (P : Params) : Obj := ⟨(.type "frame"), (none ), .plain, #[(some (.ref 285)), (some (.ref 3)), (some (.ref 281)), (none ), (some (.str "enumcraft.errors" 194)), (none ), (some (.ref 0))]⟩
def o287 (P : Params) : Obj := ⟨(.type "tuple"), (none ), (.seq #[(.ref 282)] 0), #[]⟩
def o288 (P : Params) : Obj := ⟨(.type "tuple"), (none ), (.seq #[(.str "__class__" 544)] 0), #[]⟩
def o289 (P : Params) : Obj := ⟨.none, (none ), (.fields #[]), #[]⟩
def o290 (P : Params) : Obj := ⟨(.type "tuple"), (none ), (.seq #[(.str "self" 545), (.str "word" 546)] 0), #[]⟩
def o291 (P : Params) : Obj := ⟨(.type "tuple"), (none ), (.seq #[] 0), #[]⟩
def o292 (P : Params) : Obj := ⟨.none, (none ), (.func ⟨"__init__", "NameTaken.__init__", (g 15 0).1, (g 15 0).2.1, (g 15 0).2.2, 0, [], .none, .none, .none, .none, (none ), .none, .none, 0⟩), #[]⟩
def o293 (P : Params) : Obj := ⟨(.type "code"), (none ), (.fields #[(.str "__init__" 541), (.str "NameTaken.__init__" 542), (.str "/claim/cut.py" 543), (.int 66 0), (.int 2 0), (.int 0 0), (.int 0 0), (.int 3 0), (.ref 288), (.bool true), (.int 181 0), (.ref 289), .none, (.ref 290), (.ref 291), (.ref 292), (.int 547 0), (.int 66 0), (.str "/claim/cut.py" 548)]), #[]⟩
def o294 (P : Params) : Obj := ⟨(.type "function"), (none ), (.func ⟨"__init__", "NameTaken.__init__", (g 15 0).1, (g 15 0).2.1, (g 15 0).2.2, 3, [⟨"__class__", 282⟩], .none, .none, .none, (.str "enumcraft.errors" 194), (none ), (.ref 293), (.ref 287), 0⟩), #[]⟩
def o295 (P : Params) : Obj := ⟨(.type "tuple"), (none ), (.seq #[(.str "word" 550)] 0), #[]⟩
def o296 (P : Params) : Obj := ⟨(.type "dict"), (none ), (.dict #[⟨(PyData.keyHash P "__module__"), (.str "__module__" 536), (.str "enumcraft.errors" 194)⟩, ⟨(PyData.keyHash P "__firstlineno__"), (.str "__firstlineno__" 540), (.int 64 539)⟩, ⟨(PyData.keyHash P "__init__"), (.str "__init__" 549), (.ref 294)⟩, ⟨(PyData.keyHash P "__static_attributes__"), (.str "__static_attributes__" 551), (.ref 295)⟩, ⟨(PyData.keyHash P "__doc__"), (.str "__doc__" 553), .none⟩] 3), #[]⟩
def o297 (P : Params) : Obj := ⟨(.type "type"), (none ), (.cls ⟨"NameTaken", [(.ref 31)], [(.ref 297), (.ref 31), (.type "ValueError"), (.type "Exception"), (.type "BaseException"), (.type "object")], 296, "NameTaken", true, [], [], false, (none ), false⟩), #[(some (.ref 279)), (none ), (some (.str "NameTaken" 529)), (some (.str "NameTaken" 537)), (some (.builtin "ValueError.__new__")), (some (.bool true))]⟩
def o298 (P : Params) : Obj := ⟨(.type "super"), (none ), (.fields #[(.ref 297), (.ref 297), (.ref 297)]), #[]⟩
def o299 (P : Params) : Obj := ⟨(.type "builtin_function_or_method"), (none ), (.fields #[(.builtin "object.__init_subclass__"), (.ref 297)]), #[]⟩
def o300 (P : Params) : Obj := ⟨(.type "tuple"), (none ), (.seq #[(.ref 31)] 0), #[]⟩
def o301 (P : Params) : Obj := ⟨(.type "builtin_function_or_method"), (none ), (.fields #[(.builtin "type.__prepare__"), (.type "type")]), #[]⟩
def o302 (P : Params) : Obj := ⟨(.type "dict"), (none ), (.dict #[⟨(PyData.keyHash P "__module__"), (.str "__module__" 563), (.str "enumcraft.errors" 194)⟩, ⟨(PyData.keyHash P "__qualname__"), (.str "__qualname__" 565), (.str "UnknownName" 564)⟩, ⟨(PyData.keyHash P "__firstlineno__"), (.str "__firstlineno__" 567), (.int 69 566)⟩, ⟨(PyData.keyHash P "__init__"), (.str "__init__" 576), (.ref 315)⟩, ⟨(PyData.keyHash P "__static_attributes__"), (.str "__static_attributes__" 578), (.ref 316)⟩, ⟨(PyData.keyHash P "__classcell__"), (.str "__classcell__" 579), (.ref 303)⟩] 6), #[]⟩
def o303 (P : Params) : Obj := ⟨(.type "cell"), (none ), (.cell (some (.ref 318))), #[]⟩
def o304 (P : Params) : Obj := ⟨(.type "tuple"), (none ), (.seq #[] 0), #[]⟩
def o305 (P : Params) : Obj := ⟨.none, (none ), (.fields #[(.int 71 0), (.int 4 0), (.ref 314)]), #[]⟩
def o306 (P : Params) : Obj := ⟨(.type "code"), (none ), (.fields #[(.str "UnknownName" 558), (.str "UnknownName" 559), (.str "/claim/cut.py" 560), (.int 69 0), (.int 0 0), (.int 0 0), (.int 0 0), (.int 0 0), (.ref 304), (.bool false), (.int 181 0), (.ref 305), .none, .none, .none, .none, (.int 561 0), (.int 69 0), (.str "/claim/cut.py" 562)]), #[]⟩
def o307 (P : Params) : Obj := ⟨(.type "frame"), (none ), .plain, #[(some (.ref 306)), (some (.ref 3)), (some (.ref 302)), (none ), (some (.str "enumcraft.errors" 194)), (none ), (some (.ref 0))]⟩
def o308 (P : Params) : Obj := ⟨(.type "tuple"), (none ), (.seq #[(.ref 303)] 0), #[]⟩
def o309 (P : Params) : Obj := ⟨(.type "tuple"), (none ), (.seq #[(.str "__class__" 571)] 0), #[]⟩
def o310 (P : Params) : Obj := ⟨.none, (none ), (.fields #[]), #[]⟩
def o311 (P : Params) : Obj := ⟨(.type "tuple"), (none ), (.seq #[(.str "self" 572), (.str "word" 573)] 0), #[]⟩
def o312 (P : Params) : Obj := ⟨(.type "tuple"), (none ), (.seq #[] 0), #[]⟩
def o313 (P : Params) : Obj := ⟨.none, (none ), (.func ⟨"__init__", "UnknownName.__init__", (g 16 0).1, (g 16 0).2.1, (g 16 0).2.2, 0, [], .none, .none, .none, .none, (none ), .none, .none, 0⟩), #[]⟩
def o314 (P : Params) : Obj := ⟨(.type "code"), (none ), (.fields #[(.str "__init__" 568), (.str "UnknownName.__init__" 569), (.str "/claim/cut.py" 570), (.int 71 0), (.int 2 0), (.int 0 0), (.int 0 0), (.int 3 0), (.ref 309), (.bool true), (.int 181 0), (.ref 310), .none, (.ref 311), (.ref 312), (.ref 313), (.int 574 0), (.int 71 0), (.str "/claim/cut.py" 575)]), #[]⟩
def o315 (P : Params) : Obj := ⟨(.type "function"), (none ), (.func ⟨"__init__", "UnknownName.__init__", (g 16 0).1, (g 16 0).2.1, (g 16 0).2.2, 3, [⟨"__class__", 303⟩], .none, .none, .none, (.str "enumcraft.errors" 194), (none ), (.ref 314), (.ref 308), 0⟩), #[]⟩
def o316 (P : Params) : Obj := ⟨(.type "tuple"), (none ), (.seq #[(.str "word" 577)] 0), #[]⟩
def o317 (P : Params) : Obj := ⟨(.type "dict"), (none ), (.dict #[⟨(PyData.keyHash P "__module__"), (.str "__module__" 563), (.str "enumcraft.errors" 194)⟩, ⟨(PyData.keyHash P "__firstlineno__"), (.str "__firstlineno__" 567), (.int 69 566)⟩, ⟨(PyData.keyHash P "__init__"), (.str "__init__" 576), (.ref 315)⟩, ⟨(PyData.keyHash P "__static_attributes__"), (.str "__static_attributes__" 578), (.ref 316)⟩, ⟨(PyData.keyHash P "__doc__"), (.str "__doc__" 580), .none⟩] 3), #[]⟩
def o318 (P : Params) : Obj := ⟨(.type "type"), (none ), (.cls ⟨"UnknownName", [(.ref 31)], [(.ref 318), (.ref 31), (.type "ValueError"), (.type "Exception"), (.type "BaseException"), (.type "object")], 317, "UnknownName", true, [], [], false, (none ), false⟩), #[(some (.ref 300)), (none ), (some (.str "UnknownName" 556)), (some (.str "UnknownName" 564)), (some (.builtin "ValueError.__new__")), (some (.bool true))]⟩
def o319 (P : Params) : Obj := ⟨(.type "super"), (none ), (.fields #[(.ref 318), (.ref 318), (.ref 318)]), #[]⟩
def o320 (P : Params) : Obj := ⟨(.type "builtin_function_or_method"), (none ), (.fields #[(.builtin "object.__init_subclass__"), (.ref 318)]), #[]⟩
def o321 (P : Params) : Obj := ⟨(.type "tuple"), (none ), (.seq #[(.ref 31)] 0), #[]⟩
def o322 (P : Params) : Obj := ⟨(.type "builtin_function_or_method"), (none ), (.fields #[(.builtin "type.__prepare__"), (.type "type")]), #[]⟩
def o323 (P : Params) : Obj := ⟨(.type "dict"), (none ), (.dict #[⟨(PyData.keyHash P "__module__"), (.str "__module__" 590), (.str "enumcraft.errors" 194)⟩, ⟨(PyData.keyHash P "__qualname__"), (.str "__qualname__" 592), (.str "NotFlag" 591)⟩, ⟨(PyData.keyHash P "__firstlineno__"), (.str "__firstlineno__" 594), (.int 74 593)⟩, ⟨(PyData.keyHash P "__init__"), (.str "__init__" 603), (.ref 336)⟩, ⟨(PyData.keyHash P "__static_attributes__"), (.str "__static_attributes__" 605), (.ref 337)⟩, ⟨(PyData.keyHash P "__classcell__"), (.str "__classcell__" 606), (.ref 324)⟩] 6), #[]⟩
def o324 (P : Params) : Obj := ⟨(.type "cell"), (none ), (.cell (some (.ref 339))), #[]⟩
def o325 (P : Params) : Obj := ⟨(.type "tuple"), (none ), (.seq #[] 0), #[]⟩
def o326 (P : Params) : Obj := ⟨.none, (none ), (.fields #[(.int 76 0), (.int 4 0), (.ref 335)]), #[]⟩
def o327 (P : Params) : Obj := ⟨(.type "code"), (none ), (.fields #[(.str "NotFlag" 585), (.str "NotFlag" 586), (.str "/claim/cut.py" 587), (.int 74 0), (.int 0 0), (.int 0 0), (.int 0 0), (.int 0 0), (.ref 325), (.bool false), (.int 181 0), (.ref 326), .none, .none, .none, .none, (.int 588 0), (.int 74 0), (.str "/claim/cut.py" 589)]), #[]⟩
def o328 (P : Params) : Obj := ⟨(.type "frame"), (none ), .plain, #[(some (.ref 327)), (some (.ref 3)), (some (.ref 323)), (none ), (some (.str "enumcraft.errors" 194)), (none ), (some (.ref 0))]⟩
def o329 (P : Params) : Obj := ⟨(.type "tuple"), (none ), (.seq #[(.ref 324)] 0), #[]⟩
def o330 (P : Params) : Obj := ⟨(.type "tuple"), (none ), (.seq #[(.str "__class__" 598)] 0), #[]⟩
def o331 (P : Params) : Obj := ⟨.none, (none ), (.fields #[]), #[]⟩
def o332 (P : Params) : Obj := ⟨(.type "tuple"), (none ), (.seq #[(.str "self" 599), (.str "word" 600)] 0), #[]⟩
def o333 (P : Params) : Obj := ⟨(.type "tuple"), (none ), (.seq #[] 0), #[]⟩
def o334 (P : Params) : Obj := ⟨.none, (none ), (.func ⟨"__init__", "NotFlag.__init__", (g 17 0).1, (g 17 0).2.1, (g 17 0).2.2, 0, [], .none, .none, .none, .none, (none ), .none, .none, 0⟩), #[]⟩
def o335 (P : Params) : Obj := ⟨(.type "code"), (none ), (.fields #[(.str "__init__" 595), (.str "NotFlag.__init__" 596), (.str "/claim/cut.py" 597), (.int 76 0), (.int 2 0), (.int 0 0), (.int 0 0), (.int 3 0), (.ref 330), (.bool true), (.int 181 0), (.ref 331), .none, (.ref 332), (.ref 333), (.ref 334), (.int 601 0), (.int 76 0), (.str "/claim/cut.py" 602)]), #[]⟩
def o336 (P : Params) : Obj := ⟨(.type "function"), (none ), (.func ⟨"__init__", "NotFlag.__init__", (g 17 0).1, (g 17 0).2.1, (g 17 0).2.2, 3, [⟨"__class__", 324⟩], .none, .none, .none, (.str "enumcraft.errors" 194), (none ), (.ref 335), (.ref 329), 0⟩), #[]⟩
def o337 (P : Params) : Obj := ⟨(.type "tuple"), (none ), (.seq #[(.str "word" 604)] 0), #[]⟩
def o338 (P : Params) : Obj := ⟨(.type "dict"), (none ), (.dict #[⟨(PyData.keyHash P "__module__"), (.str "__module__" 590), (.str "enumcraft.errors" 194)⟩, ⟨(PyData.keyHash P "__firstlineno__"), (.str "__firstlineno__" 594), (.int 74 593)⟩, ⟨(PyData.keyHash P "__init__"), (.str "__init__" 603), (.ref 336)⟩, ⟨(PyData.keyHash P "__static_attributes__"), (.str "__static_attributes__" 605), (.ref 337)⟩, ⟨(PyData.keyHash P "__doc__"), (.str "__doc__" 607), .none⟩] 3), #[]⟩
def o339 (P : Params) : Obj := ⟨(.type "type"), (none ), (.cls ⟨"NotFlag", [(.ref 31)], [(.ref 339), (.ref 31), (.type "ValueError"), (.type "Exception"), (.type "BaseException"), (.type "object")], 338, "NotFlag", true, [], [], false, (none ), false⟩), #[(some (.ref 321)), (none ), (some (.str "NotFlag" 583)), (some (.str "NotFlag" 591)), (some (.builtin "ValueError.__new__")), (some (.bool true))]⟩
def o340 (P : Params) : Obj := ⟨(.type "super"), (none ), (.fields #[(.ref 339), (.ref 339), (.ref 339)]), #[]⟩
def o341 (P : Params) : Obj := ⟨(.type "builtin_function_or_method"), (none ), (.fields #[(.builtin "object.__init_subclass__"), (.ref 339)]), #[]⟩
def o342 (P : Params) : Obj := ⟨(.type "tuple"), (none ), (.seq #[(.ref 31)] 0), #[]⟩
def o343 (P : Params) : Obj := ⟨(.type "builtin_function_or_method"), (none ), (.fields #[(.builtin "type.__prepare__"), (.type "type")]), #[]⟩
def o344 (P : Params) : Obj := ⟨(.type "dict"), (none ), (.dict #[⟨(PyData.keyHash P "__module__"), (.str "__module__" 617), (.str "enumcraft.errors" 194)⟩, ⟨(PyData.keyHash P "__qualname__"), (.str "__qualname__" 619), (.str "RuleTooLate" 618)⟩, ⟨(PyData.keyHash P "__firstlineno__"), (.str "__firstlineno__" 621), (.int 79 620)⟩, ⟨(PyData.keyHash P "__init__"), (.str "__init__" 630), (.ref 357)⟩, ⟨(PyData.keyHash P "__static_attributes__"), (.str "__static_attributes__" 632), (.ref 358)⟩, ⟨(PyData.keyHash P "__classcell__"), (.str "__classcell__" 633), (.ref 345)⟩] 6), #[]⟩
def o345 (P : Params) : Obj := ⟨(.type "cell"), (none ), (.cell (some (.ref 360))), #[]⟩
def o346 (P : Params) : Obj := ⟨(.type "tuple"), (none ), (.seq #[] 0), #[]⟩
def o347 (P : Params) : Obj := ⟨.none, (none ), (.fields #[(.int 81 0), (.int 4 0), (.ref 356)]), #[]⟩
def o348 (P : Params) : Obj := ⟨(.type "code"), (none ), (.fields #[(.str "RuleTooLate" 612), (.str "RuleTooLate" 613), (.str "/claim/cut.py" 614), (.int 79 0), (.int 0 0), (.int 0 0), (.int 0 0), (.int 0 0), (.ref 346), (.bool false), (.int 181 0), (.ref 347), .none, .none, .none, .none, (.int 615 0), (.int 79 0), (.str "/claim/cut.py" 616)]), #[]⟩
def o349 (P : Params) : Obj := ⟨(.type "frame"), (none ), .plain, #[(some (.ref 348)), (some (.ref 3)), (some (.ref 344)), (none ), (some (.str "enumcraft.errors" 194)), (none ), (some (.ref 0))]⟩
def o350 (P : Params) : Obj := ⟨(.type "tuple"), (none ), (.seq #[(.ref 345)] 0), #[]⟩
def o351 (P : Params) : Obj := ⟨(.type "tuple"), (none ), (.seq #[(.str "__class__" 625)] 0), #[]⟩
def o352 (P : Params) : Obj := ⟨.none, (none ), (.fields #[]), #[]⟩
def o353 (P : Params) : Obj := ⟨(.type "tuple"), (none ), (.seq #[(.str "self" 626), (.str "index" 627)] 0), #[]⟩
def o354 (P : Params) : Obj := ⟨(.type "tuple"), (none ), (.seq #[] 0), #[]⟩
def o355 (P : Params) : Obj := ⟨.none, (none ), (.func ⟨"__init__", "RuleTooLate.__init__", (g 18 0).1, (g 18 0).2.1, (g 18 0).2.2, 0, [], .none, .none, .none, .none, (none ), .none, .none, 0⟩), #[]⟩
def o356 (P : Params) : Obj := ⟨(.type "code"), (none ), (.fields #[(.str "__init__" 622), (.str "RuleTooLate.__init__" 623), (.str "/claim/cut.py" 624), (.int 81 0), (.int 2 0), (.int 0 0), (.int 0 0), (.int 3 0), (.ref 351), (.bool true), (.int 181 0), (.ref 352), .none, (.ref 353), (.ref 354), (.ref 355), (.int 628 0), (.int 81 0), (.str "/claim/cut.py" 629)]), #[]⟩
def o357 (P : Params) : Obj := ⟨(.type "function"), (none ), (.func ⟨"__init__", "RuleTooLate.__init__", (g 18 0).1, (g 18 0).2.1, (g 18 0).2.2, 3, [⟨"__class__", 345⟩], .none, .none, .none, (.str "enumcraft.errors" 194), (none ), (.ref 356), (.ref 350), 0⟩), #[]⟩
def o358 (P : Params) : Obj := ⟨(.type "tuple"), (none ), (.seq #[(.str "index" 631)] 0), #[]⟩
def o359 (P : Params) : Obj := ⟨(.type "dict"), (none ), (.dict #[⟨(PyData.keyHash P "__module__"), (.str "__module__" 617), (.str "enumcraft.errors" 194)⟩, ⟨(PyData.keyHash P "__firstlineno__"), (.str "__firstlineno__" 621), (.int 79 620)⟩, ⟨(PyData.keyHash P "__init__"), (.str "__init__" 630), (.ref 357)⟩, ⟨(PyData.keyHash P "__static_attributes__"), (.str "__static_attributes__" 632), (.ref 358)⟩, ⟨(PyData.keyHash P "__doc__"), (.str "__doc__" 634), .none⟩] 3), #[]⟩
def o360 (P : Params) : Obj := ⟨(.type "type"), (none ), (.cls ⟨"RuleTooLate", [(.ref 31)], [(.ref 360), (.ref 31), (.type "ValueError"), (.type "Exception"), (.type "BaseException"), (.type "object")], 359, "RuleTooLate", true, [], [], false, (none ), false⟩), #[(some (.ref 342)), (none ), (some (.str "RuleTooLate" 610)), (some (.str "RuleTooLate" 618)), (some (.builtin "ValueError.__new__")), (some (.bool true))]⟩
def o361 (P : Params) : Obj := ⟨(.type "super"), (none ), (.fields #[(.ref 360), (.ref 360), (.ref 360)]), #[]⟩
def o362 (P : Params) : Obj := ⟨(.type "builtin_function_or_method"), (none ), (.fields #[(.builtin "object.__init_subclass__"), (.ref 360)]), #[]⟩
def o363 (P : Params) : Obj := ⟨(.type "tuple"), (none ), (.seq #[(.ref 31)] 0), #[]⟩
def o364 (P : Params) : Obj := ⟨(.type "builtin_function_or_method"), (none ), (.fields #[(.builtin "type.__prepare__"), (.type "type")]), #[]⟩
def o365 (P : Params) : Obj := ⟨(.type "dict"), (none ), (.dict #[⟨(PyData.keyHash P "__module__"), (.str "__module__" 644), (.str "enumcraft.errors" 194)⟩, ⟨(PyData.keyHash P "__qualname__"), (.str "__qualname__" 646), (.str "NoAutomatic" 645)⟩, ⟨(PyData.keyHash P "__firstlineno__"), (.str "__firstlineno__" 648), (.int 84 647)⟩, ⟨(PyData.keyHash P "__init__"), (.str "__init__" 657), (.ref 378)⟩, ⟨(PyData.keyHash P "__static_attributes__"), (.str "__static_attributes__" 659), (.ref 379)⟩, ⟨(PyData.keyHash P "__classcell__"), (.str "__classcell__" 660), (.ref 366)⟩] 6), #[]⟩
def o366 (P : Params) : Obj := ⟨(.type "cell"), (none ), (.cell (some (.ref 381))), #[]⟩
def o367 (P : Params) : Obj := ⟨(.type "tuple"), (none ), (.seq #[] 0), #[]⟩
def o368 (P : Params) : Obj := ⟨.none, (none ), (.fields #[(.int 86 0), (.int 4 0), (.ref 377)]), #[]⟩
def o369 (P : Params) : Obj := ⟨(.type "code"), (none ), (.fields #[(.str "NoAutomatic" 639), (.str "NoAutomatic" 640), (.str "/claim/cut.py" 641), (.int 84 0), (.int 0 0), (.int 0 0), (.int 0 0), (.int 0 0), (.ref 367), (.bool false), (.int 181 0), (.ref 368), .none, .none, .none, .none, (.int 642 0), (.int 84 0), (.str "/claim/cut.py" 643)]), #[]⟩
def o370 (P : Params) : Obj := ⟨(.type "frame"), (none ), .plain, #[(some (.ref 369)), (some (.ref 3)), (some (.ref 365)), (none ), (some (.str "enumcraft.errors" 194)), (none ), (some (.ref 0))]⟩
def o371 (P : Params) : Obj := ⟨(.type "tuple"), (none ), (.seq #[(.ref 366)] 0), #[]⟩
def o372 (P : Params) : Obj := ⟨(.type "tuple"), (none ), (.seq #[(.str "__class__" 652)] 0), #[]⟩
def o373 (P : Params) : Obj := ⟨.none, (none ), (.fields #[]), #[]⟩
def o374 (P : Params) : Obj := ⟨(.type "tuple"), (none ), (.seq #[(.str "self" 653), (.str "word" 654)] 0), #[]⟩
def o375 (P : Params) : Obj := ⟨(.type "tuple"), (none ), (.seq #[] 0), #[]⟩
def o376 (P : Params) : Obj := ⟨.none, (none ), (.func ⟨"__init__", "NoAutomatic.__init__", (g 19 0).1, (g 19 0).2.1, (g 19 0).2.2, 0, [], .none, .none, .none, .none, (none ), .none, .none, 0⟩), #[]⟩
def o377 (P : Params) : Obj := ⟨(.type "code"), (none ), (.fields #[(.str "__init__" 649), (.str "NoAutomatic.__init__" 650), (.str "/claim/cut.py" 651), (.int 86 0), (.int 2 0), (.int 0 0), (.int 0 0), (.int 3 0), (.ref 372), (.bool true), (.int 181 0), (.ref 373), .none, (.ref 374), (.ref 375), (.ref 376), (.int 655 0), (.int 86 0), (.str "/claim/cut.py" 656)]), #[]⟩
def o378 (P : Params) : Obj := ⟨(.type "function"), (none ), (.func ⟨"__init__", "NoAutomatic.__init__", (g 19 0).1, (g 19 0).2.1, (g 19 0).2.2, 3, [⟨"__class__", 366⟩], .none, .none, .none, (.str "enumcraft.errors" 194), (none ), (.ref 377), (.ref 371), 0⟩), #[]⟩
def o379 (P : Params) : Obj := ⟨(.type "tuple"), (none ), (.seq #[(.str "word" 658)] 0), #[]⟩
def o380 (P : Params) : Obj := ⟨(.type "dict"), (none ), (.dict #[⟨(PyData.keyHash P "__module__"), (.str "__module__" 644), (.str "enumcraft.errors" 194)⟩, ⟨(PyData.keyHash P "__firstlineno__"), (.str "__firstlineno__" 648), (.int 84 647)⟩, ⟨(PyData.keyHash P "__init__"), (.str "__init__" 657), (.ref 378)⟩, ⟨(PyData.keyHash P "__static_attributes__"), (.str "__static_attributes__" 659), (.ref 379)⟩, ⟨(PyData.keyHash P "__doc__"), (.str "__doc__" 661), .none⟩] 3), #[]⟩
def o381 (P : Params) : Obj := ⟨(.type "type"), (none ), (.cls ⟨"NoAutomatic", [(.ref 31)], [(.ref 381), (.ref 31), (.type "ValueError"), (.type "Exception"), (.type "BaseException"), (.type "object")], 380, "NoAutomatic", true, [], [], false, (none ), false⟩), #[(some (.ref 363)), (none ), (some (.str "NoAutomatic" 637)), (some (.str "NoAutomatic" 645)), (some (.builtin "ValueError.__new__")), (some (.bool true))]⟩
def o382 (P : Params) : Obj := ⟨(.type "super"), (none ), (.fields #[(.ref 381), (.ref 381), (.ref 381)]), #[]⟩
def o383 (P : Params) : Obj := ⟨(.type "builtin_function_or_method"), (none ), (.fields #[(.builtin "object.__init_subclass__"), (.ref 381)]), #[]⟩
def o384 (P : Params) : Obj := ⟨(.type "tuple"), (none ), (.seq #[(.ref 31)] 0), #[]⟩
def o385 (P : Params) : Obj := ⟨(.type "builtin_function_or_method"), (none ), (.fields #[(.builtin "type.__prepare__"), (.type "type")]), #[]⟩
def o386 (P : Params) : Obj := ⟨(.type "dict"), (none ), (.dict #[⟨(PyData.keyHash P "__module__"), (.str "__module__" 671), (.str "enumcraft.errors" 194)⟩, ⟨(PyData.keyHash P "__qualname__"), (.str "__qualname__" 673), (.str "WrongValue" 672)⟩, ⟨(PyData.keyHash P "__firstlineno__"), (.str "__firstlineno__" 675), (.int 89 674)⟩, ⟨(PyData.keyHash P "__init__"), (.str "__init__" 685), (.ref 399)⟩, ⟨(PyData.keyHash P "__static_attributes__"), (.str "__static_attributes__" 688), (.ref 400)⟩, ⟨(PyData.keyHash P "__classcell__"), (.str "__classcell__" 689), (.ref 387)⟩] 6), #[]⟩
def o387 (P : Params) : Obj := ⟨(.type "cell"), (none ), (.cell (some (.ref 402))), #[]⟩
def o388 (P : Params) : Obj := ⟨(.type "tuple"), (none ), (.seq #[] 0), #[]⟩
def o389 (P : Params) : Obj := ⟨.none, (none ), (.fields #[(.int 91 0), (.int 4 0), (.ref 398)]), #[]⟩
def o390 (P : Params) : Obj := ⟨(.type "code"), (none ), (.fields #[(.str "WrongValue" 666), (.str "WrongValue" 667), (.str "/claim/cut.py" 668), (.int 89 0), (.int 0 0), (.int 0 0), (.int 0 0), (.int 0 0), (.ref 388), (.bool false), (.int 181 0), (.ref 389), .none, .none, .none, .none, (.int 669 0), (.int 89 0), (.str "/claim/cut.py" 670)]), #[]⟩
def o391 (P : Params) : Obj := ⟨(.type "frame"), (none ), .plain, #[(some (.ref 390)), (some (.ref 3)), (some (.ref 386)), (none ), (some (.str "enumcraft.errors" 194)), (none ), (some (.ref 0))]⟩
def o392 (P : Params) : Obj := ⟨(.type "tuple"), (none ), (.seq #[(.ref 387)] 0), #[]⟩
def o393 (P : Params) : Obj := ⟨(.type "tuple"), (none ), (.seq #[(.str "__class__" 679)] 0), #[]⟩
def o394 (P : Params) : Obj := ⟨.none, (none ), (.fields #[]), #[]⟩
def o395 (P : Params) : Obj := ⟨(.type "tuple"), (none ), (.seq #[(.str "self" 680), (.str "word" 681), (.str "given" 682)] 0), #[]⟩
def o396 (P : Params) : Obj := ⟨(.type "tuple"), (none ), (.seq #[] 0), #[]⟩
def o397 (P : Params) : Obj := ⟨.none, (none ), (.func ⟨"__init__", "WrongValue.__init__", (g 20 0).1, (g 20 0).2.1, (g 20 0).2.2, 0, [], .none, .none, .none, .none, (none ), .none, .none, 0⟩), #[]⟩
def o398 (P : Params) : Obj := ⟨(.type "code"), (none ), (.fields #[(.str "__init__" 676), (.str "WrongValue.__init__" 677), (.str "/claim/cut.py" 678), (.int 91 0), (.int 3 0), (.int 0 0), (.int 0 0), (.int 3 0), (.ref 393), (.bool true), (.int 181 0), (.ref 394), .none, (.ref 395), (.ref 396), (.ref 397), (.int 683 0), (.int 91 0), (.str "/claim/cut.py" 684)]), #[]⟩
def o399 (P : Params) : Obj := ⟨(.type "function"), (none ), (.func ⟨"__init__", "WrongValue.__init__", (g 20 0).1, (g 20 0).2.1, (g 20 0).2.2, 3, [⟨"__class__", 387⟩], .none, .none, .none, (.str "enumcraft.errors" 194), (none ), (.ref 398), (.ref 392), 0⟩), #[]⟩
def o400 (P : Params) : Obj := ⟨(.type "tuple"), (none ), (.seq #[(.str "given" 686), (.str "word" 687)] 0), #[]⟩
def o401 (P : Params) : Obj := ⟨(.type "dict"), (none ), (.dict #[⟨(PyData.keyHash P "__module__"), (.str "__module__" 671), (.str "enumcraft.errors" 194)⟩, ⟨(PyData.keyHash P "__firstlineno__"), (.str "__firstlineno__" 675), (.int 89 674)⟩, ⟨(PyData.keyHash P "__init__"), (.str "__init__" 685), (.ref 399)⟩, ⟨(PyData.keyHash P "__static_attributes__"), (.str "__static_attributes__" 688), (.ref 400)⟩, ⟨(PyData.keyHash P "__doc__"), (.str "__doc__" 690), .none⟩] 3), #[]⟩
def o402 (P : Params) : Obj := ⟨(.type "type"), (none ), (.cls ⟨"WrongValue", [(.ref 31)], [(.ref 402), (.ref 31), (.type "ValueError"), (.type "Exception"), (.type "BaseException"), (.type "object")], 401, "WrongValue", true, [], [], false, (none ), false⟩), #[(some (.ref 384)), (none ), (some (.str "WrongValue" 664)), (some (.str "WrongValue" 672)), (some (.builtin "ValueError.__new__")), (some (.bool true))]⟩
def o403 (P : Params) : Obj := ⟨(.type "super"), (none ), (.fields #[(.ref 402), (.ref 402), (.ref 402)]), #[]⟩
def o404 (P : Params) : Obj := ⟨(.type "builtin_function_or_method"), (none ), (.fields #[(.builtin "object.__init_subclass__"), (.ref 402)]), #[]⟩
def o405 (P : Params) : Obj := ⟨(.type "tuple"), (none ), (.seq #[(.ref 31)] 0), #[]⟩
def o406 (P : Params) : Obj := ⟨(.type "builtin_function_or_method"), (none ), (.fields #[(.builtin "type.__prepare__"), (.type "type")]), #[]⟩
def o407 (P : Params) : Obj := ⟨(.type "dict"), (none ), (.dict #[⟨(PyData.keyHash P "__module__"), (.str "__module__" 700), (.str "enumcraft.errors" 194)⟩, ⟨(PyData.keyHash P "__qualname__"), (.str "__qualname__" 702), (.str "NotUnique" 701)⟩, ⟨(PyData.keyHash P "__firstlineno__"), (.str "__firstlineno__" 704), (.int 95 703)⟩, ⟨(PyData.keyHash P "__init__"), (.str "__init__" 713), (.ref 420)⟩, ⟨(PyData.keyHash P "__static_attributes__"), (.str "__static_attributes__" 715), (.ref 421)⟩, ⟨(PyData.keyHash P "__classcell__"), (.str "__classcell__" 716), (.ref 408)⟩] 6), #[]⟩
def o408 (P : Params) : Obj := ⟨(.type "cell"), (none ), (.cell (some (.ref 423))), #[]⟩
def o409 (P : Params) : Obj := ⟨(.type "tuple"), (none ), (.seq #[] 0), #[]⟩
def o410 (P : Params) : Obj := ⟨.none, (none ), (.fields #[(.int 97 0), (.int 4 0), (.ref 419)]), #[]⟩
def o411 (P : Params) : Obj := ⟨(.type "code"), (none ), (.fields #[(.str "NotUnique" 695), (.str "NotUnique" 696), (.str "/claim/cut.py" 697), (.int 95 0), (.int 0 0), (.int 0 0), (.int 0 0), (.int 0 0), (.ref 409), (.bool false), (.int 181 0), (.ref 410), .none, .none, .none, .none, (.int 698 0), (.int 95 0), (.str "/claim/cut.py" 699)]), #[]⟩
def o412 (P : Params) : Obj := ⟨(.type "frame"), (none ), .plain, #[(some (.ref 411)), (some (.ref 3)), (some (.ref 407)), (none ), (some (.str "enumcraft.errors" 194)), (none ), (some (.ref 0))]⟩
def o413 (P : Params) : Obj := ⟨(.type "tuple"), (none ), (.seq #[(.ref 408)] 0), #[]⟩
def o414 (P : Params) : Obj := ⟨(.type "tuple"), (none ), (.seq #[(.str "__class__" 708)] 0), #[]⟩
def o415 (P : Params) : Obj := ⟨.none, (none ), (.fields #[]), #[]⟩
def o416 (P : Params) : Obj := ⟨(.type "tuple"), (none ), (.seq #[(.str "self" 709), (.str "doubles" 710)] 0), #[]⟩
def o417 (P : Params) : Obj := ⟨(.type "tuple"), (none ), (.seq #[] 0), #[]⟩
def o418 (P : Params) : Obj := ⟨.none, (none ), (.func ⟨"__init__", "NotUnique.__init__", (g 21 0).1, (g 21 0).2.1, (g 21 0).2.2, 0, [], .none, .none, .none, .none, (none ), .none, .none, 0⟩), #[]⟩
def o419 (P : Params) : Obj := ⟨(.type "code"), (none ), (.fields #[(.str "__init__" 705), (.str "NotUnique.__init__" 706), (.str "/claim/cut.py" 707), (.int 97 0), (.int 2 0), (.int 0 0), (.int 0 0), (.int 3 0), (.ref 414), (.bool true), (.int 181 0), (.ref 415), .none, (.ref 416), (.ref 417), (.ref 418), (.int 711 0), (.int 97 0), (.str "/claim/cut.py" 712)]), #[]⟩
def o420 (P : Params) : Obj := ⟨(.type "function"), (none ), (.func ⟨"__init__", "NotUnique.__init__", (g 21 0).1, (g 21 0).2.1, (g 21 0).2.2, 3, [⟨"__class__", 408⟩], .none, .none, .none, (.str "enumcraft.errors" 194), (none ), (.ref 419), (.ref 413), 0⟩), #[]⟩
def o421 (P : Params) : Obj := ⟨(.type "tuple"), (none ), (.seq #[(.str "doubles" 714)] 0), #[]⟩
def o422 (P : Params) : Obj := ⟨(.type "dict"), (none ), (.dict #[⟨(PyData.keyHash P "__module__"), (.str "__module__" 700), (.str "enumcraft.errors" 194)⟩, ⟨(PyData.keyHash P "__firstlineno__"), (.str "__firstlineno__" 704), (.int 95 703)⟩, ⟨(PyData.keyHash P "__init__"), (.str "__init__" 713), (.ref 420)⟩, ⟨(PyData.keyHash P "__static_attributes__"), (.str "__static_attributes__" 715), (.ref 421)⟩, ⟨(PyData.keyHash P "__doc__"), (.str "__doc__" 717), .none⟩] 3), #[]⟩
def o423 (P : Params) : Obj := ⟨(.type "type"), (none ), (.cls ⟨"NotUnique", [(.ref 31)], [(.ref 423), (.ref 31), (.type "ValueError"), (.type "Exception"), (.type "BaseException"), (.type "object")], 422, "NotUnique", true, [], [], false, (none ), false⟩), #[(some (.ref 405)), (none ), (some (.str "NotUnique" 693)), (some (.str "NotUnique" 701)), (some (.builtin "ValueError.__new__")), (some (.bool true))]⟩
def o424 (P : Params) : Obj := ⟨(.type "super"), (none ), (.fields #[(.ref 423), (.ref 423), (.ref 423)]), #[]⟩
def o425 (P : Params) : Obj := ⟨(.type "builtin_function_or_method"), (none ), (.fields #[(.builtin "object.__init_subclass__"), (.ref 423)]), #[]⟩
def o426 (P : Params) : Obj := ⟨(.type "tuple"), (none ), (.seq #[(.ref 31)] 0), #[]⟩
def o427 (P : Params) : Obj := ⟨(.type "builtin_function_or_method"), (none ), (.fields #[(.builtin "type.__prepare__"), (.type "type")]), #[]⟩
def o428 (P : Params) : Obj := ⟨(.type "dict"), (none ), (.dict #[⟨(PyData.keyHash P "__module__"), (.str "__module__" 727), (.str "enumcraft.errors" 194)⟩, ⟨(PyData.keyHash P "__qualname__"), (.str "__qualname__" 729), (.str "NotContinuous" 728)⟩, ⟨(PyData.keyHash P "__firstlineno__"), (.str "__firstlineno__" 731), (.int 100 730)⟩, ⟨(PyData.keyHash P "__init__"), (.str "__init__" 740), (.ref 441)⟩, ⟨(PyData.keyHash P "__static_attributes__"), (.str "__static_attributes__" 742), (.ref 442)⟩, ⟨(PyData.keyHash P "__classcell__"), (.str "__classcell__" 743), (.ref 429)⟩] 6), #[]⟩
def o429 (P : Params) : Obj := ⟨(.type "cell"), (none ), (.cell (some (.ref 444))), #[]⟩
def o430 (P : Params) : Obj := ⟨(.type "tuple"), (none ), (.seq #[] 0), #[]⟩
def o431 (P : Params) : Obj := ⟨.none, (none ), (.fields #[(.int 102 0), (.int 4 0), (.ref 440)]), #[]⟩
def o432 (P : Params) : Obj := ⟨(.type "code"), (none ), (.fields #[(.str "NotContinuous" 722), (.str "NotContinuous" 723), (.str "/claim/cut.py" 724), (.int 100 0), (.int 0 0), (.int 0 0), (.int 0 0), (.int 0 0), (.ref 430), (.bool false), (.int 181 0), (.ref 431), .none, .none, .none, .none, (.int 725 0), (.int 100 0), (.str "/claim/cut.py" 726)]), #[]⟩
def o433 (P : Params) : Obj := ⟨(.type "frame"), (none ), .plain, #[(some (.ref 432)), (some (.ref 3)), (some (.ref 428)), (none ), (some (.str "enumcraft.errors" 194)), (none ), (some (.ref 0))]⟩
def o434 (P : Params) : Obj := ⟨(.type "tuple"), (none ), (.seq #[(.ref 429)] 0), #[]⟩
def o435 (P : Params) : Obj := ⟨(.type "tuple"), (none ), (.seq #[(.str "__class__" 735)] 0), #[]⟩
def o436 (P : Params) : Obj := ⟨.none, (none ), (.fields #[]), #[]⟩
def o437 (P : Params) : Obj := ⟨(.type "tuple"), (none ), (.seq #[(.str "self" 736), (.str "lacking" 737)] 0), #[]⟩
def o438 (P : Params) : Obj := ⟨(.type "tuple"), (none ), (.seq #[] 0), #[]⟩
def o439 (P : Params) : Obj := ⟨.none, (none ), (.func ⟨"__init__", "NotContinuous.__init__", (g 22 0).1, (g 22 0).2.1, (g 22 0).2.2, 0, [], .none, .none, .none, .none, (none ), .none, .none, 0⟩), #[]⟩
def o440 (P : Params) : Obj := ⟨(.type "code"), (none ), (.fields #[(.str "__init__" 732), (.str "NotContinuous.__init__" 733), (.str "/claim/cut.py" 734), (.int 102 0), (.int 2 0), (.int 0 0), (.int 0 0), (.int 3 0), (.ref 435), (.bool true), (.int 181 0), (.ref 436), .none, (.ref 437), (.ref 438), (.ref 439), (.int 738 0), (.int 102 0), (.str "/claim/cut.py" 739)]), #[]⟩
def o441 (P : Params) : Obj := ⟨(.type "function"), (none ), (.func ⟨"__init__", "NotContinuous.__init__", (g 22 0).1, (g 22 0).2.1, (g 22 0).2.2, 3, [⟨"__class__", 429⟩], .none, .none, .none, (.str "enumcraft.errors" 194), (none ), (.ref 440), (.ref 434), 0⟩), #[]⟩
def o442 (P : Params) : Obj := ⟨(.type "tuple"), (none ), (.seq #[(.str "lacking" 741)] 0), #[]⟩
def o443 (P : Params) : Obj := ⟨(.type "dict"), (none ), (.dict #[⟨(PyData.keyHash P "__module__"), (.str "__module__" 727), (.str "enumcraft.errors" 194)⟩, ⟨(PyData.keyHash P "__firstlineno__"), (.str "__firstlineno__" 731), (.int 100 730)⟩, ⟨(PyData.keyHash P "__init__"), (.str "__init__" 740), (.ref 441)⟩, ⟨(PyData.keyHash P "__static_attributes__"), (.str "__static_attributes__" 742), (.ref 442)⟩, ⟨(PyData.keyHash P "__doc__"), (.str "__doc__" 744), .none⟩] 3), #[]⟩
def o444 (P : Params) : Obj := ⟨(.type "type"), (none ), (.cls ⟨"NotContinuous", [(.ref 31)], [(.ref 444), (.ref 31), (.type "ValueError"), (.type "Exception"), (.type "BaseException"), (.type "object")], 443, "NotContinuous", true, [], [], false, (none ), false⟩), #[(some (.ref 426)), (none ), (some (.str "NotContinuous" 720)), (some (.str "NotContinuous" 728)), (some (.builtin "ValueError.__new__")), (some (.bool true))]⟩
def o445 (P : Params) : Obj := ⟨(.type "super"), (none ), (.fields #[(.ref 444), (.ref 444), (.ref 444)]), #[]⟩
def o446 (P : Params) : Obj := ⟨(.type "builtin_function_or_method"), (none ), (.fields #[(.builtin "object.__init_subclass__"), (.ref 444)]), #[]⟩
def o447 (P : Params) : Obj := ⟨(.type "tuple"), (none ), (.seq #[(.ref 31)] 0), #[]⟩
def o448 (P : Params) : Obj := ⟨(.type "builtin_function_or_method"), (none ), (.fields #[(.builtin "type.__prepare__"), (.type "type")]), #[]⟩
def o449 (P : Params) : Obj := ⟨(.type "dict"), (none ), (.dict #[⟨(PyData.keyHash P "__module__"), (.str "__module__" 754), (.str "enumcraft.errors" 194)⟩, ⟨(PyData.keyHash P "__qualname__"), (.str "__qualname__" 756), (.str "NotNamed" 755)⟩, ⟨(PyData.keyHash P "__firstlineno__"), (.str "__firstlineno__" 758), (.int 105 757)⟩, ⟨(PyData.keyHash P "__init__"), (.str "__init__" 767), (.ref 462)⟩, ⟨(PyData.keyHash P "__static_attributes__"), (.str "__static_attributes__" 769), (.ref 463)⟩, ⟨(PyData.keyHash P "__classcell__"), (.str "__classcell__" 770), (.ref 450)⟩] 6), #[]⟩
def o450 (P : Params) : Obj := ⟨(.type "cell"), (none ), (.cell (some (.ref 465))), #[]⟩
def o451 (P : Params) : Obj := ⟨(.type "tuple"), (none ), (.seq #[] 0), #[]⟩
def o452 (P : Params) : Obj := ⟨.none, (none ), (.fields #[(.int 107 0), (.int 4 0), (.ref 461)]), #[]⟩
def o453 (P : Params) : Obj := ⟨(.type "code"), (none ), (.fields #[(.str "NotNamed" 749), (.str "NotNamed" 750), (.str "/claim/cut.py" 751), (.int 105 0), (.int 0 0), (.int 0 0), (.int 0 0), (.int 0 0), (.ref 451), (.bool false), (.int 181 0), (.ref 452), .none, .none, .none, .none, (.int 752 0), (.int 105 0), (.str "/claim/cut.py" 753)]), #[]⟩
def o454 (P : Params) : Obj := ⟨(.type "frame"), (none ), .plain, #[(some (.ref 453)), (some (.ref 3)), (some (.ref 449)), (none ), (some (.str "enumcraft.errors" 194)), (none ), (some (.ref 0))]⟩
def o455 (P : Params) : Obj := ⟨(.type "tuple"), (none ), (.seq #[(.ref 450)] 0), #[]⟩
def o456 (P : Params) : Obj := ⟨(.type "tuple"), (none ), (.seq #[(.str "__class__" 762)] 0), #[]⟩
def o457 (P : Params) : Obj := ⟨.none, (none ), (.fields #[]), #[]⟩
def o458 (P : Params) : Obj := ⟨(.type "tuple"), (none ), (.seq #[(.str "self" 763), (.str "unlisted" 764)] 0), #[]⟩
def o459 (P : Params) : Obj := ⟨(.type "tuple"), (none ), (.seq #[] 0), #[]⟩
def o460 (P : Params) : Obj := ⟨.none, (none ), (.func ⟨"__init__", "NotNamed.__init__", (g 23 0).1, (g 23 0).2.1, (g 23 0).2.2, 0, [], .none, .none, .none, .none, (none ), .none, .none, 0⟩), #[]⟩
def o461 (P : Params) : Obj := ⟨(.type "code"), (none ), (.fields #[(.str "__init__" 759), (.str "NotNamed.__init__" 760), (.str "/claim/cut.py" 761), (.int 107 0), (.int 2 0), (.int 0 0), (.int 0 0), (.int 3 0), (.ref 456), (.bool true), (.int 181 0), (.ref 457), .none, (.ref 458), (.ref 459), (.ref 460), (.int 765 0), (.int 107 0), (.str "/claim/cut.py" 766)]), #[]⟩
def o462 (P : Params) : Obj := ⟨(.type "function"), (none ), (.func ⟨"__init__", "NotNamed.__init__", (g 23 0).1, (g 23 0).2.1, (g 23 0).2.2, 3, [⟨"__class__", 450⟩], .none, .none, .none, (.str "enumcraft.errors" 194), (none ), (.ref 461), (.ref 455), 0⟩), #[]⟩
def o463 (P : Params) : Obj := ⟨(.type "tuple"), (none ), (.seq #[(.str "unlisted" 768)] 0), #[]⟩
def o464 (P : Params) : Obj := ⟨(.type "dict"), (none ), (.dict #[⟨(PyData.keyHash P "__module__"), (.str "__module__" 754), (.str "enumcraft.errors" 194)⟩, ⟨(PyData.keyHash P "__firstlineno__"), (.str "__firstlineno__" 758), (.int 105 757)⟩, ⟨(PyData.keyHash P "__init__"), (.str "__init__" 767), (.ref 462)⟩, ⟨(PyData.keyHash P "__static_attributes__"), (.str "__static_attributes__" 769), (.ref 463)⟩, ⟨(PyData.keyHash P "__doc__"), (.str "__doc__" 771), .none⟩] 3), #[]⟩
def o465 (P : Params) : Obj := ⟨(.type "type"), (none ), (.cls ⟨"NotNamed", [(.ref 31)], [(.ref 465), (.ref 31), (.type "ValueError"), (.type "Exception"), (.type "BaseException"), (.type "object")], 464, "NotNamed", true, [], [], false, (none ), false⟩), #[(some (.ref 447)), (none ), (some (.str "NotNamed" 747)), (some (.str "NotNamed" 755)), (some (.builtin "ValueError.__new__")), (some (.bool true))]⟩
def o466 (P : Params) : Obj := ⟨(.type "super"), (none ), (.fields #[(.ref 465), (.ref 465), (.ref 465)]), #[]⟩
def o467 (P : Params) : Obj := ⟨(.type "builtin_function_or_method"), (none ), (.fields #[(.builtin "object.__init_subclass__"), (.ref 465)]), #[]⟩
def o468 (P : Params) : Obj := ⟨(.type "tuple"), (none ), (.seq #[(.ref 31)] 0), #[]⟩
def o469 (P : Params) : Obj := ⟨(.type "builtin_function_or_method"), (none ), (.fields #[(.builtin "type.__prepare__"), (.type "type")]), #[]⟩
def o470 (P : Params) : Obj := ⟨(.type "dict"), (none ), (.dict #[⟨(PyData.keyHash P "__module__"), (.str "__module__" 781), (.str "enumcraft.errors" 194)⟩, ⟨(PyData.keyHash P "__qualname__"), (.str "__qualname__" 783), (.str "InvalidMissing" 782)⟩, ⟨(PyData.keyHash P "__firstlineno__"), (.str "__firstlineno__" 785), (.int 110 784)⟩, ⟨(PyData.keyHash P "__init__"), (.str "__init__" 794), (.ref 483)⟩, ⟨(PyData.keyHash P "__static_attributes__"), (.str "__static_attributes__" 796), (.ref 484)⟩, ⟨(PyData.keyHash P "__classcell__"), (.str "__classcell__" 797), (.ref 471)⟩] 6), #[]⟩
def o471 (P : Params) : Obj := ⟨(.type "cell"), (none ), (.cell (some (.ref 486))), #[]⟩
def o472 (P : Params) : Obj := ⟨(.type "tuple"), (none ), (.seq #[] 0), #[]⟩
def o473 (P : Params) : Obj := ⟨.none, (none ), (.fields #[(.int 112 0), (.int 4 0), (.ref 482)]), #[]⟩
def o474 (P : Params) : Obj := ⟨(.type "code"), (none ), (.fields #[(.str "InvalidMissing" 776), (.str "InvalidMissing" 777), (.str "/claim/cut.py" 778), (.int 110 0), (.int 0 0), (.int 0 0), (.int 0 0), (.int 0 0), (.ref 472), (.bool false), (.int 181 0), (.ref 473), .none, .none, .none, .none, (.int 779 0), (.int 110 0), (.str "/claim/cut.py" 780)]), #[]⟩
def o475 (P : Params) : Obj := ⟨(.type "frame"), (none ), .plain, #[(some (.ref 474)), (some (.ref 3)), (some (.ref 470)), (none ), (some (.str "enumcraft.errors" 194)), (none ), (some (.ref 0))]⟩
def o476 (P : Params) : Obj := ⟨(.type "tuple"), (none ), (.seq #[(.ref 471)] 0), #[]⟩
def o477 (P : Params) : Obj := ⟨(.type "tuple"), (none ), (.seq #[(.str "__class__" 789)] 0), #[]⟩
def o478 (P : Params) : Obj := ⟨.none, (none ), (.fields #[]), #[]⟩
def o479 (P : Params) : Obj := ⟨(.type "tuple"), (none ), (.seq #[(.str "self" 790), (.str "given" 791)] 0), #[]⟩
def o480 (P : Params) : Obj := ⟨(.type "tuple"), (none ), (.seq #[] 0), #[]⟩
def o481 (P : Params) : Obj := ⟨.none, (none ), (.func ⟨"__init__", "InvalidMissing.__init__", (g 24 0).1, (g 24 0).2.1, (g 24 0).2.2, 0, [], .none, .none, .none, .none, (none ), .none, .none, 0⟩), #[]⟩
def o482 (P : Params) : Obj := ⟨(.type "code"), (none ), (.fields #[(.str "__init__" 786), (.str "InvalidMissing.__init__" 787), (.str "/claim/cut.py" 788), (.int 112 0), (.int 2 0), (.int 0 0), (.int 0 0), (.int 3 0), (.ref 477), (.bool true), (.int 181 0), (.ref 478), .none, (.ref 479), (.ref 480), (.ref 481), (.int 792 0), (.int 112 0), (.str "/claim/cut.py" 793)]), #[]⟩
def o483 (P : Params) : Obj := ⟨(.type "function"), (none ), (.func ⟨"__init__", "InvalidMissing.__init__", (g 24 0).1, (g 24 0).2.1, (g 24 0).2.2, 3, [⟨"__class__", 471⟩], .none, .none, .none, (.str "enumcraft.errors" 194), (none ), (.ref 482), (.ref 476), 0⟩), #[]⟩
def o484 (P : Params) : Obj := ⟨(.type "tuple"), (none ), (.seq #[(.str "given" 795)] 0), #[]⟩
def o485 (P : Params) : Obj := ⟨(.type "dict"), (none ), (.dict #[⟨(PyData.keyHash P "__module__"), (.str "__module__" 781), (.str "enumcraft.errors" 194)⟩, ⟨(PyData.keyHash P "__firstlineno__"), (.str "__firstlineno__" 785), (.int 110 784)⟩, ⟨(PyData.keyHash P "__init__"), (.str "__init__" 794), (.ref 483)⟩, ⟨(PyData.keyHash P "__static_attributes__"), (.str "__static_attributes__" 796), (.ref 484)⟩, ⟨(PyData.keyHash P "__doc__"), (.str "__doc__" 798), .none⟩] 3), #[]⟩
def o486 (P : Params) : Obj := ⟨(.type "type"), (none ), (.cls ⟨"InvalidMissing", [(.ref 31)], [(.ref 486), (.ref 31), (.type "ValueError"), (.type "Exception"), (.type "BaseException"), (.type "object")], 485, "InvalidMissing", true, [], [], false, (none ), false⟩), #[(some (.ref 468)), (none ), (some (.str "InvalidMissing" 774)), (some (.str "InvalidMissing" 782)), (some (.builtin "ValueError.__new__")), (some (.bool true))]⟩
def o487 (P : Params) : Obj := ⟨(.type "super"), (none ), (.fields #[(.ref 486), (.ref 486), (.ref 486)]), #[]⟩
def o488 (P : Params) : Obj := ⟨(.type "builtin_function_or_method"), (none ), (.fields #[(.builtin "object.__init_subclass__"), (.ref 486)]), #[]⟩
def o489 (P : Params) : Obj := ⟨(.type "tuple"), (none ), (.seq #[(.ref 31)] 0), #[]⟩
def o490 (P : Params) : Obj := ⟨(.type "builtin_function_or_method"), (none ), (.fields #[(.builtin "type.__prepare__"), (.type "type")]), #[]⟩
def o491 (P : Params) : Obj := ⟨(.type "dict"), (none ), (.dict #[⟨(PyData.keyHash P "__module__"), (.str "__module__" 808), (.str "enumcraft.errors" 194)⟩, ⟨(PyData.keyHash P "__qualname__"), (.str "__qualname__" 810), (.str "OtherKind" 809)⟩, ⟨(PyData.keyHash P "__firstlineno__"), (.str "__firstlineno__" 812), (.int 115 811)⟩, ⟨(PyData.keyHash P "__init__"), (.str "__init__" 821), (.ref 504)⟩, ⟨(PyData.keyHash P "__static_attributes__"), (.str "__static_attributes__" 823), (.ref 505)⟩, ⟨(PyData.keyHash P "__classcell__"), (.str "__classcell__" 824), (.ref 492)⟩] 6), #[]⟩
def o492 (P : Params) : Obj := ⟨(.type "cell"), (none ), (.cell (some (.ref 507))), #[]⟩
def o493 (P : Params) : Obj := ⟨(.type "tuple"), (none ), (.seq #[] 0), #[]⟩
def o494 (P : Params) : Obj := ⟨.none, (none ), (.fields #[(.int 117 0), (.int 4 0), (.ref 503)]), #[]⟩
def o495 (P : Params) : Obj := ⟨(.type "code"), (none ), (.fields #[(.str "OtherKind" 803), (.str "OtherKind" 804), (.str "/claim/cut.py" 805), (.int 115 0), (.int 0 0), (.int 0 0), (.int 0 0), (.int 0 0), (.ref 493), (.bool false), (.int 181 0), (.ref 494), .none, .none, .none, .none, (.int 806 0), (.int 115 0), (.str "/claim/cut.py" 807)]), #[]⟩
def o496 (P : Params) : Obj := ⟨(.type "frame"), (none ), .plain, #[(some (.ref 495)), (some (.ref 3)), (some (.ref 491)), (none ), (some (.str "enumcraft.errors" 194)), (none ), (some (.ref 0))]⟩
def o497 (P : Params) : Obj := ⟨(.type "tuple"), (none ), (.seq #[(.ref 492)] 0), #[]⟩
def o498 (P : Params) : Obj := ⟨(.type "tuple"), (none ), (.seq #[(.str "__class__" 816)] 0), #[]⟩
def o499 (P : Params) : Obj := ⟨.none, (none ), (.fields #[]), #[]⟩
def o500 (P : Params) : Obj := ⟨(.type "tuple"), (none ), (.seq #[(.str "self" 817), (.str "given" 818)] 0), #[]⟩
def o501 (P : Params) : Obj := ⟨(.type "tuple"), (none ), (.seq #[] 0), #[]⟩
def o502 (P : Params) : Obj := ⟨.none, (none ), (.func ⟨"__init__", "OtherKind.__init__", (g 25 0).1, (g 25 0).2.1, (g 25 0).2.2, 0, [], .none, .none, .none, .none, (none ), .none, .none, 0⟩), #[]⟩
def o503 (P : Params) : Obj := ⟨(.type "code"), (none ), (.fields #[(.str "__init__" 813), (.str "OtherKind.__init__" 814), (.str "/claim/cut.py" 815), (.int 117 0), (.int 2 0), (.int 0 0), (.int 0 0), (.int 3 0), (.ref 498), (.bool true), (.int 181 0), (.ref 499), .none, (.ref 500), (.ref 501), (.ref 502), (.int 819 0), (.int 117 0), (.str "/claim/cut.py" 820)]), #[]⟩
def o504 (P : Params) : Obj := ⟨(.type "function"), (none ), (.func ⟨"__init__", "OtherKind.__init__", (g 25 0).1, (g 25 0).2.1, (g 25 0).2.2, 3, [⟨"__class__", 492⟩], .none, .none, .none, (.str "enumcraft.errors" 194), (none ), (.ref 503), (.ref 497), 0⟩), #[]⟩
def o505 (P : Params) : Obj := ⟨(.type "tuple"), (none ), (.seq #[(.str "given" 822)] 0), #[]⟩
def o506 (P : Params) : Obj := ⟨(.type "dict"), (none ), (.dict #[⟨(PyData.keyHash P "__module__"), (.str "__module__" 808), (.str "enumcraft.errors" 194)⟩, ⟨(PyData.keyHash P "__firstlineno__"), (.str "__firstlineno__" 812), (.int 115 811)⟩, ⟨(PyData.keyHash P "__init__"), (.str "__init__" 821), (.ref 504)⟩, ⟨(PyData.keyHash P "__static_attributes__"), (.str "__static_attributes__" 823), (.ref 505)⟩, ⟨(PyData.keyHash P "__doc__"), (.str "__doc__" 825), .none⟩] 3), #[]⟩
def o507 (P : Params) : Obj := ⟨(.type "type"), (none ), (.cls ⟨"OtherKind", [(.ref 31)], [(.ref 507), (.ref 31), (.type "ValueError"), (.type "Exception"), (.type "BaseException"), (.type "object")], 506, "OtherKind", true, [], [], false, (none ), false⟩), #[(some (.ref 489)), (none ), (some (.str "OtherKind" 801)), (some (.str "OtherKind" 809)), (some (.builtin "ValueError.__new__")), (some (.bool true))]⟩
def o508 (P : Params) : Obj := ⟨(.type "super"), (none ), (.fields #[(.ref 507), (.ref 507), (.ref 507)]), #[]⟩
def o509 (P : Params) : Obj := ⟨(.type "builtin_function_or_method"), (none ), (.fields #[(.builtin "object.__init_subclass__"), (.ref 507)]), #[]⟩
def o510 (P : Params) : Obj := ⟨(.type "tuple"), (none ), (.seq #[(.ref 31)] 0), #[]⟩
def o511 (P : Params) : Obj := ⟨(.type "builtin_function_or_method"), (none ), (.fields #[(.builtin "type.__prepare__"), (.type "type")]), #[]⟩
def o512 (P : Params) : Obj := ⟨(.type "dict"), (none ), (.dict #[⟨(PyData.keyHash P "__module__"), (.str "__module__" 835), (.str "enumcraft.errors" 194)⟩, ⟨(PyData.keyHash P "__qualname__"), (.str "__qualname__" 837), (.str "InvalidKind" 836)⟩, ⟨(PyData.keyHash P "__firstlineno__"), (.str "__firstlineno__" 839), (.int 120 838)⟩, ⟨(PyData.keyHash P "__init__"), (.str "__init__" 848), (.ref 525)⟩, ⟨(PyData.keyHash P "__static_attributes__"), (.str "__static_attributes__" 850), (.ref 526)⟩, ⟨(PyData.keyHash P "__classcell__"), (.str "__classcell__" 851), (.ref 513)⟩] 6), #[]⟩
def o513 (P : Params) : Obj := ⟨(.type "cell"), (none ), (.cell (some (.ref 528))), #[]⟩
def o514 (P : Params) : Obj := ⟨(.type "tuple"), (none ), (.seq #[] 0), #[]⟩
def o515 (P : Params) : Obj := ⟨.none, (none ), (.fields #[(.int 122 0), (.int 4 0), (.ref 524)]), #[]⟩
def o516 (P : Params) : Obj := ⟨(.type "code"), (none ), (.fields #[(.str "InvalidKind" 830), (.str "InvalidKind" 831), (.str "/claim/cut.py" 832), (.int 120 0), (.int 0 0), (.int 0 0), (.int 0 0), (.int 0 0), (.ref 514), (.bool false), (.int 181 0), (.ref 515), .none, .none, .none, .none, (.int 833 0), (.int 120 0), (.str "/claim/cut.py" 834)]), #[]⟩
def o517 (P : Params) : Obj := ⟨(.type "frame"), (none ), .plain, #[(some (.ref 516)), (some (.ref 3)), (some (.ref 512)), (none ), (some (.str "enumcraft.errors" 194)), (none ), (some (.ref 0))]⟩
def o518 (P : Params) : Obj := ⟨(.type "tuple"), (none ), (.seq #[(.ref 513)] 0), #[]⟩
def o519 (P : Params) : Obj := ⟨(.type "tuple"), (none ), (.seq #[(.str "__class__" 843)] 0), #[]⟩
def o520 (P : Params) : Obj := ⟨.none, (none ), (.fields #[]), #[]⟩
def o521 (P : Params) : Obj := ⟨(.type "tuple"), (none ), (.seq #[(.str "self" 844), (.str "given" 845)] 0), #[]⟩
def o522 (P : Params) : Obj := ⟨(.type "tuple"), (none ), (.seq #[] 0), #[]⟩
def o523 (P : Params) : Obj := ⟨.none, (none ), (.func ⟨"__init__", "InvalidKind.__init__", (g 26 0).1, (g 26 0).2.1, (g 26 0).2.2, 0, [], .none, .none, .none, .none, (none ), .none, .none, 0⟩), #[]⟩
def o524 (P : Params) : Obj := ⟨(.type "code"), (none ), (.fields #[(.str "__init__" 840), (.str "InvalidKind.__init__" 841), (.str "/claim/cut.py" 842), (.int 122 0), (.int 2 0), (.int 0 0), (.int 0 0), (.int 3 0), (.ref 519), (.bool true), (.int 181 0), (.ref 520), .none, (.ref 521), (.ref 522), (.ref 523), (.int 846 0), (.int 122 0), (.str "/claim/cut.py" 847)]), #[]⟩
def o525 (P : Params) : Obj := ⟨(.type "function"), (none ), (.func ⟨"__init__", "InvalidKind.__init__", (g 26 0).1, (g 26 0).2.1, (g 26 0).2.2, 3, [⟨"__class__", 513⟩], .none, .none, .none, (.str "enumcraft.errors" 194), (none ), (.ref 524), (.ref 518), 0⟩), #[]⟩
def o526 (P : Params) : Obj := ⟨(.type "tuple"), (none ), (.seq #[(.str "given" 849)] 0), #[]⟩
def o527 (P : Params) : Obj := ⟨(.type "dict"), (none ), (.dict #[⟨(PyData.keyHash P "__module__"), (.str "__module__" 835), (.str "enumcraft.errors" 194)⟩, ⟨(PyData.keyHash P "__firstlineno__"), (.str "__firstlineno__" 839), (.int 120 838)⟩, ⟨(PyData.keyHash P "__init__"), (.str "__init__" 848), (.ref 525)⟩, ⟨(PyData.keyHash P "__static_attributes__"), (.str "__static_attributes__" 850), (.ref 526)⟩, ⟨(PyData.keyHash P "__doc__"), (.str "__doc__" 852), .none⟩] 3), #[]⟩
def o528 (P : Params) : Obj := ⟨(.type "type"), (none ), (.cls ⟨"InvalidKind", [(.ref 31)], [(.ref 528), (.ref 31), (.type "ValueError"), (.type "Exception"), (.type "BaseException"), (.type "object")], 527, "InvalidKind", true, [], [], false, (none ), false⟩), #[(some (.ref 510)), (none ), (some (.str "InvalidKind" 828)), (some (.str "InvalidKind" 836)), (some (.builtin "ValueError.__new__")), (some (.bool true))]⟩
def o529 (P : Params) : Obj := ⟨(.type "super"), (none ), (.fields #[(.ref 528), (.ref 528), (.ref 528)]), #[]⟩
def o530 (P : Params) : Obj := ⟨(.type "builtin_function_or_method"), (none ), (.fields #[(.builtin "object.__init_subclass__"), (.ref 528)]), #[]⟩
def o531 (P : Params) : Obj := ⟨(.type "tuple"), (none ), (.seq #[(.ref 31)] 0), #[]⟩
def o532 (P : Params) : Obj := ⟨(.type "builtin_function_or_method"), (none ), (.fields #[(.builtin "type.__prepare__"), (.type "type")]), #[]⟩
def o533 (P : Params) : Obj := ⟨(.type "dict"), (none ), (.dict #[⟨(PyData.keyHash P "__module__"), (.str "__module__" 862), (.str "enumcraft.errors" 194)⟩, ⟨(PyData.keyHash P "__qualname__"), (.str "__qualname__" 864), (.str "InvalidValue" 863)⟩, ⟨(PyData.keyHash P "__firstlineno__"), (.str "__firstlineno__" 866), (.int 125 865)⟩, ⟨(PyData.keyHash P "__init__"), (.str "__init__" 875), (.ref 546)⟩, ⟨(PyData.keyHash P "__static_attributes__"), (.str "__static_attributes__" 877), (.ref 547)⟩, ⟨(PyData.keyHash P "__classcell__"), (.str "__classcell__" 878), (.ref 534)⟩] 6), #[]⟩
def o534 (P : Params) : Obj := ⟨(.type "cell"), (none ), (.cell (some (.ref 549))), #[]⟩
def o535 (P : Params) : Obj := ⟨(.type "tuple"), (none ), (.seq #[] 0), #[]⟩
def o536 (P : Params) : Obj := ⟨.none, (none ), (.fields #[(.int 127 0), (.int 4 0), (.ref 545)]), #[]⟩
def o537 (P : Params) : Obj := ⟨(.type "code"), (none ), (.fields #[(.str "InvalidValue" 857), (.str "InvalidValue" 858), (.str "/claim/cut.py" 859), (.int 125 0), (.int 0 0), (.int 0 0), (.int 0 0), (.int 0 0), (.ref 535), (.bool false), (.int 181 0), (.ref 536), .none, .none, .none, .none, (.int 860 0), (.int 125 0), (.str "/claim/cut.py" 861)]), #[]⟩
def o538 (P : Params) : Obj := ⟨(.type "frame"), (none ), .plain, #[(some (.ref 537)), (some (.ref 3)), (some (.ref 533)), (none ), (some (.str "enumcraft.errors" 194)), (none ), (some (.ref 0))]⟩
def o539 (P : Params) : Obj := ⟨(.type "tuple"), (none ), (.seq #[(.ref 534)] 0), #[]⟩
def o540 (P : Params) : Obj := ⟨(.type "tuple"), (none ), (.seq #[(.str "__class__" 870)] 0), #[]⟩
def o541 (P : Params) : Obj := ⟨.none, (none ), (.fields #[]), #[]⟩
def o542 (P : Params) : Obj := ⟨(.type "tuple"), (none ), (.seq #[(.str "self" 871), (.str "given" 872)] 0), #[]⟩
def o543 (P : Params) : Obj := ⟨(.type "tuple"), (none ), (.seq #[] 0), #[]⟩
def o544 (P : Params) : Obj := ⟨.none, (none ), (.func ⟨"__init__", "InvalidValue.__init__", (g 27 0).1, (g 27 0).2.1, (g 27 0).2.2, 0, [], .none, .none, .none, .none, (none ), .none, .none, 0⟩), #[]⟩
def o545 (P : Params) : Obj := ⟨(.type "code"), (none ), (.fields #[(.str "__init__" 867), (.str "InvalidValue.__init__" 868), (.str "/claim/cut.py" 869), (.int 127 0), (.int 2 0), (.int 0 0), (.int 0 0), (.int 3 0), (.ref 540), (.bool true), (.int 181 0), (.ref 541), .none, (.ref 542), (.ref 543), (.ref 544), (.int 873 0), (.int 127 0), (.str "/claim/cut.py" 874)]), #[]⟩
def o546 (P : Params) : Obj := ⟨(.type "function"), (none ), (.func ⟨"__init__", "InvalidValue.__init__", (g 27 0).1, (g 27 0).2.1, (g 27 0).2.2, 3, [⟨"__class__", 534⟩], .none, .none, .none, (.str "enumcraft.errors" 194), (none ), (.ref 545), (.ref 539), 0⟩), #[]⟩
def o547 (P : Params) : Obj := ⟨(.type "tuple"), (none ), (.seq #[(.str "given" 876)] 0), #[]⟩
def o548 (P : Params) : Obj := ⟨(.type "dict"), (none ), (.dict #[⟨(PyData.keyHash P "__module__"), (.str "__module__" 862), (.str "enumcraft.errors" 194)⟩, ⟨(PyData.keyHash P "__firstlineno__"), (.str "__firstlineno__" 866), (.int 125 865)⟩, ⟨(PyData.keyHash P "__init__"), (.str "__init__" 875), (.ref 546)⟩, ⟨(PyData.keyHash P "__static_attributes__"), (.str "__static_attributes__" 877), (.ref 547)⟩, ⟨(PyData.keyHash P "__doc__"), (.str "__doc__" 879), .none⟩] 3), #[]⟩
def o549 (P : Params) : Obj := ⟨(.type "type"), (none ), (.cls ⟨"InvalidValue", [(.ref 31)], [(.ref 549), (.ref 31), (.type "ValueError"), (.type "Exception"), (.type "BaseException"), (.type "object")], 548, "InvalidValue", true, [], [], false, (none ), false⟩), #[(some (.ref 531)), (none ), (some (.str "InvalidValue" 855)), (some (.str "InvalidValue" 863)), (some (.builtin "ValueError.__new__")), (some (.bool true))]⟩
def o550 (P : Params) : Obj := ⟨(.type "super"), (none ), (.fields #[(.ref 549), (.ref 549), (.ref 549)]), #[]⟩
def o551 (P : Params) : Obj := ⟨(.type "builtin_function_or_method"), (none ), (.fields #[(.builtin "object.__init_subclass__"), (.ref 549)]), #[]⟩
def o552 (P : Params) : Obj := ⟨(.type "tuple"), (none ), (.seq #[(.ref 44)] 0), #[]⟩
def o553 (P : Params) : Obj := ⟨(.type "builtin_function_or_method"), (none ), (.fields #[(.builtin "type.__prepare__"), (.type "type")]), #[]⟩
def o554 (P : Params) : Obj := ⟨(.type "dict"), (none ), (.dict #[⟨(PyData.keyHash P "__module__"), (.str "__module__" 889), (.str "enumcraft.errors" 194)⟩, ⟨(PyData.keyHash P "__qualname__"), (.str "__qualname__" 891), (.str "NoMember" 890)⟩, ⟨(PyData.keyHash P "__firstlineno__"), (.str "__firstlineno__" 893), (.int 130 892)⟩, ⟨(PyData.keyHash P "__init__"), (.str "__init__" 902), (.ref 567)⟩, ⟨(PyData.keyHash P "__static_attributes__"), (.str "__static_attributes__" 904), (.ref 568)⟩, ⟨(PyData.keyHash P "__classcell__"), (.str "__classcell__" 905), (.ref 555)⟩] 6), #[]⟩
def o555 (P : Params) : Obj := ⟨(.type "cell"), (none ), (.cell (some (.ref 570))), #[]⟩
def o556 (P : Params) : Obj := ⟨(.type "tuple"), (none ), (.seq #[] 0), #[]⟩
def o557 (P : Params) : Obj := ⟨.none, (none ), (.fields #[(.int 132 0), (.int 4 0), (.ref 566)]), #[]⟩
def o558 (P : Params) : Obj := ⟨(.type "code"), (none ), (.fields #[(.str "NoMember" 884), (.str "NoMember" 885), (.str "/claim/cut.py" 886), (.int 130 0), (.int 0 0), (.int 0 0), (.int 0 0), (.int 0 0), (.ref 556), (.bool false), (.int 181 0), (.ref 557), .none, .none, .none, .none, (.int 887 0), (.int 130 0), (.str "/claim/cut.py" 888)]), #[]⟩
def o559 (P : Params) : Obj := ⟨(.type "frame"), (none ), .plain, #[(some (.ref 558)), (some (.ref 3)), (some (.ref 554)), (none ), (some (.str "enumcraft.errors" 194)), (none ), (some (.ref 0))]⟩
def o560 (P : Params) : Obj := ⟨(.type "tuple"), (none ), (.seq #[(.ref 555)] 0), #[]⟩
def o561 (P : Params) : Obj := ⟨(.type "tuple"), (none ), (.seq #[(.str "__class__" 897)] 0), #[]⟩
def o562 (P : Params) : Obj := ⟨.none, (none ), (.fields #[]), #[]⟩
def o563 (P : Params) : Obj := ⟨(.type "tuple"), (none ), (.seq #[(.str "self" 898), (.str "given" 899)] 0), #[]⟩
def o564 (P : Params) : Obj := ⟨(.type "tuple"), (none ), (.seq #[] 0), #[]⟩
def o565 (P : Params) : Obj := ⟨.none, (none ), (.func ⟨"__init__", "NoMember.__init__", (g 28 0).1, (g 28 0).2.1, (g 28 0).2.2, 0, [], .none, .none, .none, .none, (none ), .none, .none, 0⟩), #[]⟩
def o566 (P : Params) : Obj := ⟨(.type "code"), (none ), (.fields #[(.str "__init__" 894), (.str "NoMember.__init__" 895), (.str "/claim/cut.py" 896), (.int 132 0), (.int 2 0), (.int 0 0), (.int 0 0), (.int 3 0), (.ref 561), (.bool true), (.int 181 0), (.ref 562), .none, (.ref 563), (.ref 564), (.ref 565), (.int 900 0), (.int 132 0), (.str "/claim/cut.py" 901)]), #[]⟩
def o567 (P : Params) : Obj := ⟨(.type "function"), (none ), (.func ⟨"__init__", "NoMember.__init__", (g 28 0).1, (g 28 0).2.1, (g 28 0).2.2, 3, [⟨"__class__", 555⟩], .none, .none, .none, (.str "enumcraft.errors" 194), (none ), (.ref 566), (.ref 560), 0⟩), #[]⟩
def o568 (P : Params) : Obj := ⟨(.type "tuple"), (none ), (.seq #[(.str "given" 903)] 0), #[]⟩
def o569 (P : Params) : Obj := ⟨(.type "dict"), (none ), (.dict #[⟨(PyData.keyHash P "__module__"), (.str "__module__" 889), (.str "enumcraft.errors" 194)⟩, ⟨(PyData.keyHash P "__firstlineno__"), (.str "__firstlineno__" 893), (.int 130 892)⟩, ⟨(PyData.keyHash P "__init__"), (.str "__init__" 902), (.ref 567)⟩, ⟨(PyData.keyHash P "__static_attributes__"), (.str "__static_attributes__" 904), (.ref 568)⟩, ⟨(PyData.keyHash P "__doc__"), (.str "__doc__" 906), .none⟩] 3), #[]⟩
def o570 (P : Params) : Obj := ⟨(.type "type"), (none ), (.cls ⟨"NoMember", [(.ref 44)], [(.ref 570), (.ref 44), (.type "LookupError"), (.type "Exception"), (.type "BaseException"), (.type "object")], 569, "NoMember", true, [], [], false, (none ), false⟩), #[(some (.ref 552)), (none ), (some (.str "NoMember" 882)), (some (.str "NoMember" 890)), (some (.builtin "LookupError.__new__")), (some (.bool true))]⟩
def o571 (P : Params) : Obj := ⟨(.type "super"), (none ), (.fields #[(.ref 570), (.ref 570), (.ref 570)]), #[]⟩
def o572 (P : Params) : Obj := ⟨(.type "builtin_function_or_method"), (none ), (.fields #[(.builtin "object.__init_subclass__"), (.ref 570)]), #[]⟩
def o573 (P : Params) : Obj := ⟨(.type "tuple"), (none ), (.seq #[(.ref 44)] 0), #[]⟩
def o574 (P : Params) : Obj := ⟨(.type "builtin_function_or_method"), (none ), (.fields #[(.builtin "type.__prepare__"), (.type "type")]), #[]⟩
def o575 (P : Params) : Obj := ⟨(.type "dict"), (none ), (.dict #[⟨(PyData.keyHash P "__module__"), (.str "__module__" 916), (.str "enumcraft.errors" 194)⟩, ⟨(PyData.keyHash P "__qualname__"), (.str "__qualname__" 918), (.str "NoName" 917)⟩, ⟨(PyData.keyHash P "__firstlineno__"), (.str "__firstlineno__" 920), (.int 135 919)⟩, ⟨(PyData.keyHash P "__init__"), (.str "__init__" 929), (.ref 588)⟩, ⟨(PyData.keyHash P "__static_attributes__"), (.str "__static_attributes__" 931), (.ref 589)⟩, ⟨(PyData.keyHash P "__classcell__"), (.str "__classcell__" 932), (.ref 576)⟩] 6), #[]⟩
def o576 (P : Params) : Obj := ⟨(.type "cell"), (none ), (.cell (some (.ref 591))), #[]⟩
def o577 (P : Params) : Obj := ⟨(.type "tuple"), (none ), (.seq #[] 0), #[]⟩
def o578 (P : Params) : Obj := ⟨.none, (none ), (.fields #[(.int 137 0), (.int 4 0), (.ref 587)]), #[]⟩
def o579 (P : Params) : Obj := ⟨(.type "code"), (none ), (.fields #[(.str "NoName" 911), (.str "NoName" 912), (.str "/claim/cut.py" 913), (.int 135 0), (.int 0 0), (.int 0 0), (.int 0 0), (.int 0 0), (.ref 577), (.bool false), (.int 181 0), (.ref 578), .none, .none, .none, .none, (.int 914 0), (.int 135 0), (.str "/claim/cut.py" 915)]), #[]⟩
def o580 (P : Params) : Obj := ⟨(.type "frame"), (none ), .plain, #[(some (.ref 579)), (some (.ref 3)), (some (.ref 575)), (none ), (some (.str "enumcraft.errors" 194)), (none ), (some (.ref 0))]⟩
def o581 (P : Params) : Obj := ⟨(.type "tuple"), (none ), (.seq #[(.ref 576)] 0), #[]⟩
def o582 (P : Params) : Obj := ⟨(.type "tuple"), (none ), (.seq #[(.str "__class__" 924)] 0), #[]⟩
def o583 (P : Params) : Obj := ⟨.none, (none ), (.fields #[]), #[]⟩
def o584 (P : Params) : Obj := ⟨(.type "tuple"), (none ), (.seq #[(.str "self" 925), (.str "word" 926)] 0), #[]⟩
def o585 (P : Params) : Obj := ⟨(.type "tuple"), (none ), (.seq #[] 0), #[]⟩
def o586 (P : Params) : Obj := ⟨.none, (none ), (.func ⟨"__init__", "NoName.__init__", (g 29 0).1, (g 29 0).2.1, (g 29 0).2.2, 0, [], .none, .none, .none, .none, (none ), .none, .none, 0⟩), #[]⟩
def o587 (P : Params) : Obj := ⟨(.type "code"), (none ), (.fields #[(.str "__init__" 921), (.str "NoName.__init__" 922), (.str "/claim/cut.py" 923), (.int 137 0), (.int 2 0), (.int 0 0), (.int 0 0), (.int 3 0), (.ref 582), (.bool true), (.int 181 0), (.ref 583), .none, (.ref 584), (.ref 585), (.ref 586), (.int 927 0), (.int 137 0), (.str "/claim/cut.py" 928)]), #[]⟩
def o588 (P : Params) : Obj := ⟨(.type "function"), (none ), (.func ⟨"__init__", "NoName.__init__", (g 29 0).1, (g 29 0).2.1, (g 29 0).2.2, 3, [⟨"__class__", 576⟩], .none, .none, .none, (.str "enumcraft.errors" 194), (none ), (.ref 587), (.ref 581), 0⟩), #[]⟩
def o589 (P : Params) : Obj := ⟨(.type "tuple"), (none ), (.seq #[(.str "word" 930)] 0), #[]⟩
def o590 (P : Params) : Obj := ⟨(.type "dict"), (none ), (.dict #[⟨(PyData.keyHash P "__module__"), (.str "__module__" 916), (.str "enumcraft.errors" 194)⟩, ⟨(PyData.keyHash P "__firstlineno__"), (.str "__firstlineno__" 920), (.int 135 919)⟩, ⟨(PyData.keyHash P "__init__"), (.str "__init__" 929), (.ref 588)⟩, ⟨(PyData.keyHash P "__static_attributes__"), (.str "__static_attributes__" 931), (.ref 589)⟩, ⟨(PyData.keyHash P "__doc__"), (.str "__doc__" 933), .none⟩] 3), #[]⟩
def o591 (P : Params) : Obj := ⟨(.type "type"), (none ), (.cls ⟨"NoName", [(.ref 44)], [(.ref 591), (.ref 44), (.type "LookupError"), (.type "Exception"), (.type "BaseException"), (.type "object")], 590, "NoName", true, [], [], false, (none ), false⟩), #[(some (.ref 573)), (none ), (some (.str "NoName" 909)), (some (.str "NoName" 917)), (some (.builtin "LookupError.__new__")), (some (.bool true))]⟩
def o592 (P : Params) : Obj := ⟨(.type "super"), (none ), (.fields #[(.ref 591), (.ref 591), (.ref 591)]), #[]⟩
def o593 (P : Params) : Obj := ⟨(.type "builtin_function_or_method"), (none ), (.fields #[(.builtin "object.__init_subclass__"), (.ref 591)]), #[]⟩
def o594 (P : Params) : Obj := ⟨(.type "tuple"), (none ), (.seq #[] 0), #[]⟩
def o595 (P : Params) : Obj := ⟨.none, (none ), (.fields #[]), #[]⟩
def o596 (P : Params) : Obj := ⟨(.type "tuple"), (none ), (.seq #[(.str "value" 955)] 0), #[]⟩
def o597 (P : Params) : Obj := ⟨(.type "tuple"), (none ), (.seq #[] 0), #[]⟩
def o598 (P : Params) : Obj := ⟨.none, (none ), (.func ⟨"is_integer", "is_integer", (f 38).1, (f 38).2.1, (f 38).2.2, 0, [], .none, .none, .none, .none, (none ), .none, .none, 0⟩), #[]⟩
def o599 (P : Params) : Obj := ⟨(.type "code"), (none ), (.fields #[(.str "is_integer" 952), (.str "is_integer" 953), (.str "/claim/cut.py" 954), (.int 148 0), (.int 1 0), (.int 0 0), (.int 0 0), (.int 3 0), (.ref 594), (.bool true), (.int 181 0), (.ref 595), .none, (.ref 596), (.ref 597), (.ref 598), (.int 956 0), (.int 148 0), (.str "/claim/cut.py" 957)]), #[]⟩
def o600 (P : Params) : Obj := ⟨(.type "function"), (none ), (.func ⟨"is_integer", "is_integer", (f 38).1, (f 38).2.1, (f 38).2.2, 3, [], .none, .none, .none, (.str "enumcraft.values" 936), (none ), (.ref 599), .none, 0⟩), #[]⟩
def o601 (P : Params) : Obj := ⟨(.type "tuple"), (none ), (.seq #[] 0), #[]⟩
def o602 (P : Params) : Obj := ⟨.none, (none ), (.fields #[]), #[]⟩
def o603 (P : Params) : Obj := ⟨(.type "tuple"), (none ), (.seq #[(.str "value" 962)] 0), #[]⟩
def o604 (P : Params) : Obj := ⟨(.type "tuple"), (none ), (.seq #[] 0), #[]⟩
def o605 (P : Params) : Obj := ⟨.none, (none ), (.func ⟨"is_text", "is_text", (f 39).1, (f 39).2.1, (f 39).2.2, 0, [], .none, .none, .none, .none, (none ), .none, .none, 0⟩), #[]⟩
def o606 (P : Params) : Obj := ⟨(.type "code"), (none ), (.fields #[(.str "is_text" 959), (.str "is_text" 960), (.str "/claim/cut.py" 961), (.int 150 0), (.int 1 0), (.int 0 0), (.int 0 0), (.int 3 0), (.ref 601), (.bool true), (.int 181 0), (.ref 602), .none, (.ref 603), (.ref 604), (.ref 605), (.int 963 0), (.int 150 0), (.str "/claim/cut.py" 964)]), #[]⟩
def o607 (P : Params) : Obj := ⟨(.type "function"), (none ), (.func ⟨"is_text", "is_text", (f 39).1, (f 39).2.1, (f 39).2.2, 3, [], .none, .none, .none, (.str "enumcraft.values" 936), (none ), (.ref 606), .none, 0⟩), #[]⟩
def o608 (P : Params) : Obj := ⟨(.type "tuple"), (none ), (.seq #[] 0), #[]⟩
def o609 (P : Params) : Obj := ⟨.none, (none ), (.fields #[]), #[]⟩
def o610 (P : Params) : Obj := ⟨.none, (none ), (.func ⟨"is_name", "is_name", (f 40).1, (f 40).2.1, (f 40).2.2, 0, [], .none, .none, .none, .none, (none ), .none, .none, 0⟩), #[]⟩
def o611 (P : Params) : Obj := ⟨(.type "code"), (none ), (.fields #[(.str "is_name" 966), (.str "is_name" 967), (.str "/claim/cut.py" 968), (.int 152 0), (.int 1 0), (.int 0 0), (.int 0 0), (.int 3 0), (.ref 608), (.bool true), (.int 181 0), (.ref 609), .none, .none, .none, (.ref 610), (.int 969 0), (.int 152 0), (.str "/claim/cut.py" 970)]), #[]⟩
def o612 (P : Params) : Obj := ⟨(.type "function"), (none ), (.func ⟨"is_name", "is_name", (f 40).1, (f 40).2.1, (f 40).2.2, 3, [], .none, .none, .none, (.str "enumcraft.values" 936), (none ), (.ref 611), .none, 0⟩), #[]⟩
def o613 (P : Params) : Obj := ⟨(.type "tuple"), (none ), (.seq #[] 0), #[]⟩
def o614 (P : Params) : Obj := ⟨.none, (none ), (.fields #[]), #[]⟩
def o615 (P : Params) : Obj := ⟨(.type "tuple"), (none ), (.seq #[(.str "value" 975)] 0), #[]⟩
def o616 (P : Params) : Obj := ⟨(.type "tuple"), (none ), (.seq #[] 0), #[]⟩
def o617 (P : Params) : Obj := ⟨.none, (none ), (.func ⟨"is_reserved", "is_reserved", (f 41).1, (f 41).2.1, (f 41).2.2, 0, [], .none, .none, .none, .none, (none ), .none, .none, 0⟩), #[]⟩
def o618 (P : Params) : Obj := ⟨(.type "code"), (none ), (.fields #[(.str "is_reserved" 972), (.str "is_reserved" 973), (.str "/claim/cut.py" 974), (.int 156 0), (.int 1 0), (.int 0 0), (.int 0 0), (.int 3 0), (.ref 613), (.bool true), (.int 181 0), (.ref 614), .none, (.ref 615), (.ref 616), (.ref 617), (.int 976 0), (.int 156 0), (.str "/claim/cut.py" 977)]), #[]⟩
def o619 (P : Params) : Obj := ⟨(.type "function"), (none ), (.func ⟨"is_reserved", "is_reserved", (f 41).1, (f 41).2.1, (f 41).2.2, 3, [], .none, .none, .none, (.str "enumcraft.values" 936), (none ), (.ref 618), .none, 0⟩), #[]⟩
def o620 (P : Params) : Obj := ⟨(.type "tuple"), (none ), (.seq #[] 0), #[]⟩
def o621 (P : Params) : Obj := ⟨.none, (none ), (.fields #[]), #[]⟩
def o622 (P : Params) : Obj := ⟨.none, (none ), (.func ⟨"is_nested", "is_nested", (f 42).1, (f 42).2.1, (f 42).2.2, 0, [], .none, .none, .none, .none, (none ), .none, .none, 0⟩), #[]⟩
def o623 (P : Params) : Obj := ⟨(.type "code"), (none ), (.fields #[(.str "is_nested" 979), (.str "is_nested" 980), (.str "/claim/cut.py" 981), (.int 158 0), (.int 2 0), (.int 0 0), (.int 0 0), (.int 3 0), (.ref 620), (.bool true), (.int 181 0), (.ref 621), .none, .none, .none, (.ref 622), (.int 982 0), (.int 158 0), (.str "/claim/cut.py" 983)]), #[]⟩
def o624 (P : Params) : Obj := ⟨(.type "function"), (none ), (.func ⟨"is_nested", "is_nested", (f 42).1, (f 42).2.1, (f 42).2.2, 3, [], .none, .none, .none, (.str "enumcraft.values" 936), (none ), (.ref 623), .none, 0⟩), #[]⟩
def o625 (P : Params) : Obj := ⟨(.type "tuple"), (none ), (.seq #[] 0), #[]⟩
def o626 (P : Params) : Obj := ⟨.none, (none ), (.fields #[]), #[]⟩
def o627 (P : Params) : Obj := ⟨(.type "tuple"), (none ), (.seq #[(.str "value" 988)] 0), #[]⟩
def o628 (P : Params) : Obj := ⟨(.type "tuple"), (none ), (.seq #[] 0), #[]⟩
def o629 (P : Params) : Obj := ⟨.none, (none ), (.func ⟨"is_value", "is_value", (f 43).1, (f 43).2.1, (f 43).2.2, 0, [], .none, .none, .none, .none, (none ), .none, .none, 0⟩), #[]⟩
def o630 (P : Params) : Obj := ⟨(.type "code"), (none ), (.fields #[(.str "is_value" 985), (.str "is_value" 986), (.str "/claim/cut.py" 987), (.int 166 0), (.int 1 0), (.int 0 0), (.int 0 0), (.int 3 0), (.ref 625), (.bool true), (.int 181 0), (.ref 626), .none, (.ref 627), (.ref 628), (.ref 629), (.int 989 0), (.int 166 0), (.str "/claim/cut.py" 990)]), #[]⟩
def o631 (P : Params) : Obj := ⟨(.type "function"), (none ), (.func ⟨"is_value", "is_value", (f 43).1, (f 43).2.1, (f 43).2.2, 3, [], .none, .none, .none, (.str "enumcraft.values" 936), (none ), (.ref 630), .none, 0⟩), #[]⟩
def o632 (P : Params) : Obj := ⟨(.type "tuple"), (none ), (.seq #[] 0), #[]⟩
def o633 (P : Params) : Obj := ⟨.none, (none ), (.fields #[]), #[]⟩
def o634 (P : Params) : Obj := ⟨(.type "tuple"), (none ), (.seq #[(.str "value" 999)] 0), #[]⟩
def o635 (P : Params) : Obj := ⟨(.type "tuple"), (none ), (.seq #[] 0), #[]⟩
def o636 (P : Params) : Obj := ⟨.none, (none ), (.func ⟨"is_flag_value", "is_flag_value", (f 46).1, (f 46).2.1, (f 46).2.2, 0, [], .none, .none, .none, .none, (none ), .none, .none, 0⟩), #[]⟩
def o637 (P : Params) : Obj := ⟨(.type "code"), (none ), (.fields #[(.str "is_flag_value" 996), (.str "is_flag_value" 997), (.str "/claim/cut.py" 998), (.int 170 0), (.int 1 0), (.int 0 0), (.int 0 0), (.int 3 0), (.ref 632), (.bool true), (.int 181 0), (.ref 633), .none, (.ref 634), (.ref 635), (.ref 636), (.int 1000 0), (.int 170 0), (.str "/claim/cut.py" 1001)]), #[]⟩
def o638 (P : Params) : Obj := ⟨(.type "function"), (none ), (.func ⟨"is_flag_value", "is_flag_value", (f 46).1, (f 46).2.1, (f 46).2.2, 3, [], .none, .none, .none, (.str "enumcraft.bits" 992), (none ), (.ref 637), .none, 0⟩), #[]⟩
def o639 (P : Params) : Obj := ⟨(.type "tuple"), (none ), (.seq #[] 0), #[]⟩
def o640 (P : Params) : Obj := ⟨.none, (none ), (.fields #[]), #[]⟩
def o641 (P : Params) : Obj := ⟨(.type "tuple"), (none ), (.seq #[(.str "numbers" 1006), (.str "number" 1007)] 0), #[]⟩
def o642 (P : Params) : Obj := ⟨(.type "tuple"), (none ), (.seq #[] 0), #[]⟩
def o643 (P : Params) : Obj := ⟨.none, (none ), (.func ⟨"need_flag_values", "need_flag_values", (f 47).1, (f 47).2.1, (f 47).2.2, 0, [], .none, .none, .none, .none, (none ), .none, .none, 0⟩), #[]⟩
def o644 (P : Params) : Obj := ⟨(.type "code"), (none ), (.fields #[(.str "need_flag_values" 1003), (.str "need_flag_values" 1004), (.str "/claim/cut.py" 1005), (.int 172 0), (.int 1 0), (.int 0 0), (.int 0 0), (.int 3 0), (.ref 639), (.bool true), (.int 181 0), (.ref 640), .none, (.ref 641), (.ref 642), (.ref 643), (.int 1008 0), (.int 172 0), (.str "/claim/cut.py" 1009)]), #[]⟩
def o645 (P : Params) : Obj := ⟨(.type "function"), (none ), (.func ⟨"need_flag_values", "need_flag_values", (f 47).1, (f 47).2.1, (f 47).2.2, 3, [], .none, .none, .none, (.str "enumcraft.bits" 992), (none ), (.ref 644), .none, 0⟩), #[]⟩
def o646 (P : Params) : Obj := ⟨(.type "tuple"), (none ), (.seq #[] 0), #[]⟩
def o647 (P : Params) : Obj := ⟨.none, (none ), (.fields #[]), #[]⟩
def o648 (P : Params) : Obj := ⟨.none, (none ), (.func ⟨"bits_of", "bits_of", (f 48).1, (f 48).2.1, (f 48).2.2, 0, [], .none, .none, .none, .none, (none ), .none, .none, 0⟩), #[]⟩
def o649 (P : Params) : Obj := ⟨(.type "code"), (none ), (.fields #[(.str "bits_of" 1011), (.str "bits_of" 1012), (.str "/claim/cut.py" 1013), (.int 176 0), (.int 1 0), (.int 0 0), (.int 0 0), (.int 3 0), (.ref 646), (.bool true), (.int 181 0), (.ref 647), .none, .none, .none, (.ref 648), (.int 1014 0), (.int 176 0), (.str "/claim/cut.py" 1015)]), #[]⟩
def o650 (P : Params) : Obj := ⟨(.type "function"), (none ), (.func ⟨"bits_of", "bits_of", (f 48).1, (f 48).2.1, (f 48).2.2, 3, [], .none, .none, .none, (.str "enumcraft.bits" 992), (none ), (.ref 649), .none, 0⟩), #[]⟩
def o651 (P : Params) : Obj := ⟨(.type "tuple"), (none ), (.seq #[] 0), #[]⟩
def o652 (P : Params) : Obj := ⟨.none, (none ), (.fields #[]), #[]⟩
def o653 (P : Params) : Obj := ⟨(.type "tuple"), (none ), (.seq #[(.str "numbers" 1020), (.str "found" 1021), (.str "number" 1022)] 0), #[]⟩
def o654 (P : Params) : Obj := ⟨(.type "tuple"), (none ), (.seq #[] 0), #[]⟩
def o655 (P : Params) : Obj := ⟨.none, (none ), (.func ⟨"union", "union", (f 49).1, (f 49).2.1, (f 49).2.2, 0, [], .none, .none, .none, .none, (none ), .none, .none, 0⟩), #[]⟩
def o656 (P : Params) : Obj := ⟨(.type "code"), (none ), (.fields #[(.str "union" 1017), (.str "union" 1018), (.str "/claim/cut.py" 1019), (.int 179 0), (.int 0 0), (.int 0 0), (.int 0 0), (.int 7 0), (.ref 651), (.bool true), (.int 181 0), (.ref 652), .none, (.ref 653), (.ref 654), (.ref 655), (.int 1023 0), (.int 179 0), (.str "/claim/cut.py" 1024)]), #[]⟩
def o657 (P : Params) : Obj := ⟨(.type "function"), (none ), (.func ⟨"union", "union", (f 49).1, (f 49).2.1, (f 49).2.2, 3, [], .none, .none, .none, (.str "enumcraft.bits" 992), (none ), (.ref 656), .none, 0⟩), #[]⟩
def o658 (P : Params) : Obj := ⟨(.type "tuple"), (none ), (.seq #[] 0), #[]⟩
def o659 (P : Params) : Obj := ⟨.none, (none ), (.fields #[]), #[]⟩
def o660 (P : Params) : Obj := ⟨(.type "tuple"), (none ), (.seq #[(.str "numbers" 1029)] 0), #[]⟩
def o661 (P : Params) : Obj := ⟨(.type "tuple"), (none ), (.seq #[] 0), #[]⟩
def o662 (P : Params) : Obj := ⟨.none, (none ), (.func ⟨"next_bit", "next_bit", (f 50).1, (f 50).2.1, (f 50).2.2, 0, [], .none, .none, .none, .none, (none ), .none, .none, 0⟩), #[]⟩
def o663 (P : Params) : Obj := ⟨(.type "code"), (none ), (.fields #[(.str "next_bit" 1026), (.str "next_bit" 1027), (.str "/claim/cut.py" 1028), (.int 185 0), (.int 0 0), (.int 0 0), (.int 0 0), (.int 7 0), (.ref 658), (.bool true), (.int 181 0), (.ref 659), .none, (.ref 660), (.ref 661), (.ref 662), (.int 1030 0), (.int 185 0), (.str "/claim/cut.py" 1031)]), #[]⟩
def o664 (P : Params) : Obj := ⟨(.type "function"), (none ), (.func ⟨"next_bit", "next_bit", (f 50).1, (f 50).2.1, (f 50).2.2, 3, [], .none, .none, .none, (.str "enumcraft.bits" 992), (none ), (.ref 663), .none, 0⟩), #[]⟩
def o665 (P : Params) : Obj := ⟨(.type "tuple"), (none ), (.seq #[] 0), #[]⟩
def o666 (P : Params) : Obj := ⟨.none, (none ), (.fields #[]), #[]⟩
def o667 (P : Params) : Obj := ⟨.none, (none ), (.func ⟨"split", "split", (f 51).1, (f 51).2.1, (f 51).2.2, 0, [], .none, .none, .none, .none, (none ), .none, .none, 0⟩), #[]⟩
def o668 (P : Params) : Obj := ⟨(.type "code"), (none ), (.fields #[(.str "split" 1033), (.str "split" 1034), (.str "/claim/cut.py" 1035), (.int 187 0), (.int 2 0), (.int 0 0), (.int 0 0), (.int 3 0), (.ref 665), (.bool true), (.int 181 0), (.ref 666), .none, .none, .none, (.ref 667), (.int 1036 0), (.int 187 0), (.str "/claim/cut.py" 1037)]), #[]⟩
def o669 (P : Params) : Obj := ⟨(.type "function"), (none ), (.func ⟨"split", "split", (f 51).1, (f 51).2.1, (f 51).2.2, 3, [], .none, .none, .none, (.str "enumcraft.bits" 992), (none ), (.ref 668), .none, 0⟩), #[]⟩
def o670 (P : Params) : Obj := ⟨(.type "tuple"), (none ), (.seq #[] 0), #[]⟩
def o671 (P : Params) : Obj := ⟨.none, (none ), (.fields #[]), #[]⟩
def o672 (P : Params) : Obj := ⟨(.type "tuple"), (none ), (.seq #[(.str "value" 1042), (.str "mask" 1043), (.str "together" 1044)] 0), #[]⟩
def o673 (P : Params) : Obj := ⟨(.type "tuple"), (none ), (.seq #[] 0), #[]⟩
def o674 (P : Params) : Obj := ⟨.none, (none ), (.func ⟨"kept_reading", "kept_reading", (f 52).1, (f 52).2.1, (f 52).2.2, 0, [], .none, .none, .none, .none, (none ), .none, .none, 0⟩), #[]⟩
def o675 (P : Params) : Obj := ⟨(.type "code"), (none ), (.fields #[(.str "kept_reading" 1039), (.str "kept_reading" 1040), (.str "/claim/cut.py" 1041), (.int 191 0), (.int 2 0), (.int 0 0), (.int 0 0), (.int 3 0), (.ref 670), (.bool true), (.int 181 0), (.ref 671), .none, (.ref 672), (.ref 673), (.ref 674), (.int 1045 0), (.int 191 0), (.str "/claim/cut.py" 1046)]), #[]⟩
def o676 (P : Params) : Obj := ⟨(.type "function"), (none ), (.func ⟨"kept_reading", "kept_reading", (f 52).1, (f 52).2.1, (f 52).2.2, 3, [], .none, .none, .none, (.str "enumcraft.bits" 992), (none ), (.ref 675), .none, 0⟩), #[]⟩
def o677 (P : Params) : Obj := ⟨(.type "tuple"), (none ), (.seq #[] 0), #[]⟩
def o678 (P : Params) : Obj := ⟨.none, (none ), (.fields #[]), #[]⟩
def o679 (P : Params) : Obj := ⟨(.type "tuple"), (none ), (.seq #[(.str "value" 1051), (.str "mask" 1052), (.str "boundary" 1053)] 0), #[]⟩
def o680 (P : Params) : Obj := ⟨(.type "tuple"), (none ), (.seq #[] 0), #[]⟩
def o681 (P : Params) : Obj := ⟨.none, (none ), (.func ⟨"reading", "reading", (f 53).1, (f 53).2.1, (f 53).2.2, 0, [], .none, .none, .none, .none, (none ), .none, .none, 0⟩), #[]⟩
def o682 (P : Params) : Obj := ⟨(.type "code"), (none ), (.fields #[(.str "reading" 1048), (.str "reading" 1049), (.str "/claim/cut.py" 1050), (.int 198 0), (.int 3 0), (.int 0 0), (.int 0 0), (.int 3 0), (.ref 677), (.bool true), (.int 181 0), (.ref 678), .none, (.ref 679), (.ref 680), (.ref 681), (.int 1054 0), (.int 198 0), (.str "/claim/cut.py" 1055)]), #[]⟩
def o683 (P : Params) : Obj := ⟨(.type "function"), (none ), (.func ⟨"reading", "reading", (f 53).1, (f 53).2.1, (f 53).2.2, 3, [], .none, .none, .none, (.str "enumcraft.bits" 992), (none ), (.ref 682), .none, 0⟩), #[]⟩
def o684 (P : Params) : Obj := ⟨(.type "tuple"), (none ), (.seq #[] 0), #[]⟩
def o685 (P : Params) : Obj := ⟨(.type "builtin_function_or_method"), (none ), (.fields #[(.builtin "type.__prepare__"), (.type "type")]), #[]⟩
def o686 (P : Params) : Obj := ⟨(.type "dict"), (none ), (.dict #[⟨(PyData.keyHash P "__module__"), (.str "__module__" 1068), (.str "enumcraft.lines" 1057)⟩, ⟨(PyData.keyHash P "__qualname__"), (.str "__qualname__" 1070), (.str "KindRoot" 1069)⟩, ⟨(PyData.keyHash P "__firstlineno__"), (.str "__firstlineno__" 1072), (.int 210 1071)⟩, ⟨(PyData.keyHash P "__init__"), (.str "__init__" 1085), (.ref 697)⟩, ⟨(PyData.keyHash P "__static_attributes__"), (.str "__static_attributes__" 1093), (.ref 698)⟩] 5), #[]⟩
def o687 (P : Params) : Obj := ⟨(.type "tuple"), (none ), (.seq #[] 0), #[]⟩
def o688 (P : Params) : Obj := ⟨.none, (none ), (.fields #[(.int 212 0), (.int 4 0), (.ref 696)]), #[]⟩
def o689 (P : Params) : Obj := ⟨(.type "code"), (none ), (.fields #[(.str "KindRoot" 1063), (.str "KindRoot" 1064), (.str "/claim/cut.py" 1065), (.int 210 0), (.int 0 0), (.int 0 0), (.int 0 0), (.int 0 0), (.ref 687), (.bool false), (.int 181 0), (.ref 688), .none, .none, .none, .none, (.int 1066 0), (.int 210 0), (.str "/claim/cut.py" 1067)]), #[]⟩
def o690 (P : Params) : Obj := ⟨(.type "frame"), (none ), .plain, #[(some (.ref 689)), (some (.ref 3)), (some (.ref 686)), (none ), (some (.str "enumcraft.lines" 1057)), (none ), (some (.ref 0))]⟩
def o691 (P : Params) : Obj := ⟨(.type "tuple"), (none ), (.seq #[] 0), #[]⟩
def o692 (P : Params) : Obj := ⟨.none, (none ), (.fields #[]), #[]⟩
def o693 (P : Params) : Obj := ⟨(.type "tuple"), (none ), (.seq #[(.str "self" 1076), (.str "name" 1077), (.str "family" 1078), (.str "bases" 1079), (.str "boundary" 1080), (.str "start" 1081), (.str "record" 1082)] 0), #[]⟩
def o694 (P : Params) : Obj := ⟨(.type "tuple"), (none ), (.seq #[] 0), #[]⟩
def o695 (P : Params) : Obj := ⟨.none, (none ), (.func ⟨"__init__", "KindRoot.__init__", (g 56 0).1, (g 56 0).2.1, (g 56 0).2.2, 0, [], .none, .none, .none, .none, (none ), .none, .none, 0⟩), #[]⟩
def o696 (P : Params) : Obj := ⟨(.type "code"), (none ), (.fields #[(.str "__init__" 1073), (.str "KindRoot.__init__" 1074), (.str "/claim/cut.py" 1075), (.int 212 0), (.int 7 0), (.int 0 0), (.int 0 0), (.int 3 0), (.ref 691), (.bool true), (.int 181 0), (.ref 692), .none, (.ref 693), (.ref 694), (.ref 695), (.int 1083 0), (.int 212 0), (.str "/claim/cut.py" 1084)]), #[]⟩
def o697 (P : Params) : Obj := ⟨(.type "function"), (none ), (.func ⟨"__init__", "KindRoot.__init__", (g 56 0).1, (g 56 0).2.1, (g 56 0).2.2, 3, [], .none, .none, .none, (.str "enumcraft.lines" 1057), (none ), (.ref 696), .none, 0⟩), #[]⟩
def o698 (P : Params) : Obj := ⟨(.type "tuple"), (none ), (.seq #[(.str "own_bases" 1086), (.str "own_boundary" 1087), (.str "own_family" 1088), (.str "own_line" 1089), (.str "own_name" 1090), (.str "own_record" 1091), (.str "own_start" 1092)] 0), #[]⟩
def o699 (P : Params) : Obj := ⟨(.type "dict"), (none ), (.dict #[⟨(PyData.keyHash P "__module__"), (.str "__module__" 1068), (.str "enumcraft.lines" 1057)⟩, ⟨(PyData.keyHash P "__firstlineno__"), (.str "__firstlineno__" 1072), (.int 210 1071)⟩, ⟨(PyData.keyHash P "__init__"), (.str "__init__" 1085), (.ref 697)⟩, ⟨(PyData.keyHash P "__static_attributes__"), (.str "__static_attributes__" 1093), (.ref 698)⟩, ⟨(PyData.keyHash P "__dict__"), (.str "__dict__" 1095), (.ref 701)⟩, ⟨(PyData.keyHash P "__weakref__"), (.str "__weakref__" 1097), (.ref 702)⟩, ⟨(PyData.keyHash P "__doc__"), (.str "__doc__" 1098), .none⟩] 4), #[]⟩
def o700 (P : Params) : Obj := ⟨(.type "type"), (none ), (.cls ⟨"KindRoot", [(.type "object")], [(.ref 700), (.type "object")], 699, "KindRoot", true, [], [], false, (none ), false⟩), #[(none ), (none ), (some (.str "KindRoot" 1061)), (some (.str "KindRoot" 1069)), (some (.builtin "object.__new__")), (some (.bool true))]⟩
def o701 (P : Params) : Obj := ⟨(.type "getset_descriptor"), (none ), (.fields #[(.str "__dict__" 1094), (.ref 700), (.builtin "function.__dict__"), (.builtin "function.__dict__#set")]), #[]⟩
def o702 (P : Params) : Obj := ⟨(.type "getset_descriptor"), (none ), (.fields #[(.str "__weakref__" 1096), (.ref 700), (.builtin "ExceptionGroup.__weakref__"), .none]), #[]⟩
def o703 (P : Params) : Obj := ⟨(.type "super"), (none ), (.fields #[(.ref 700), (.ref 700), (.ref 700)]), #[]⟩
def o704 (P : Params) : Obj := ⟨(.type "builtin_function_or_method"), (none ), (.fields #[(.builtin "object.__init_subclass__"), (.ref 700)]), #[]⟩
def o705 (P : Params) : Obj := ⟨(.type "tuple"), (none ), (.seq #[] 0), #[]⟩
def o706 (P : Params) : Obj := ⟨.none, (none ), (.fields #[]), #[]⟩
def o707 (P : Params) : Obj := ⟨(.type "tuple"), (none ), (.seq #[(.str "kind" 1104)] 0), #[]⟩
def o708 (P : Params) : Obj := ⟨(.type "tuple"), (none ), (.seq #[] 0), #[]⟩
def o709 (P : Params) : Obj := ⟨.none, (none ), (.func ⟨"line_of", "line_of", (f 57).1, (f 57).2.1, (f 57).2.2, 0, [], .none, .none, .none, .none, (none ), .none, .none, 0⟩), #[]⟩
def o710 (P : Params) : Obj := ⟨(.type "code"), (none ), (.fields #[(.str "line_of" 1101), (.str "line_of" 1102), (.str "/claim/cut.py" 1103), (.int 220 0), (.int 1 0), (.int 0 0), (.int 0 0), (.int 3 0), (.ref 705), (.bool true), (.int 181 0), (.ref 706), .none, (.ref 707), (.ref 708), (.ref 709), (.int 1105 0), (.int 220 0), (.str "/claim/cut.py" 1106)]), #[]⟩
def o711 (P : Params) : Obj := ⟨(.type "function"), (none ), (.func ⟨"line_of", "line_of", (f 57).1, (f 57).2.1, (f 57).2.2, 3, [], .none, .none, .none, (.str "enumcraft.lines" 1057), (none ), (.ref 710), .none, 0⟩), #[]⟩
def o712 (P : Params) : Obj := ⟨(.type "tuple"), (none ), (.seq #[] 0), #[]⟩
def o713 (P : Params) : Obj := ⟨.none, (none ), (.fields #[]), #[]⟩
def o714 (P : Params) : Obj := ⟨.none, (none ), (.func ⟨"line_behind", "line_behind", (f 58).1, (f 58).2.1, (f 58).2.2, 0, [], .none, .none, .none, .none, (none ), .none, .none, 0⟩), #[]⟩
def o715 (P : Params) : Obj := ⟨(.type "code"), (none ), (.fields #[(.str "line_behind" 1108), (.str "line_behind" 1109), (.str "/claim/cut.py" 1110), (.int 222 0), (.int 1 0), (.int 0 0), (.int 0 0), (.int 3 0), (.ref 712), (.bool true), (.int 181 0), (.ref 713), .none, .none, .none, (.ref 714), (.int 1111 0), (.int 222 0), (.str "/claim/cut.py" 1112)]), #[]⟩
def o716 (P : Params) : Obj := ⟨(.type "function"), (none ), (.func ⟨"line_behind", "line_behind", (f 58).1, (f 58).2.1, (f 58).2.2, 3, [], .none, .none, .none, (.str "enumcraft.lines" 1057), (none ), (.ref 715), .none, 0⟩), #[]⟩
def o717 (P : Params) : Obj := ⟨(.type "tuple"), (none ), (.seq #[] 0), #[]⟩
def o718 (P : Params) : Obj := ⟨.none, (none ), (.fields #[]), #[]⟩
def o719 (P : Params) : Obj := ⟨.none, (none ), (.func ⟨"found_word", "found_word", (f 59).1, (f 59).2.1, (f 59).2.2, 0, [], .none, .none, .none, .none, (none ), .none, .none, 0⟩), #[]⟩
def o720 (P : Params) : Obj := ⟨(.type "code"), (none ), (.fields #[(.str "found_word" 1114), (.str "found_word" 1115), (.str "/claim/cut.py" 1116), (.int 227 0), (.int 3 0), (.int 0 0), (.int 0 0), (.int 3 0), (.ref 717), (.bool true), (.int 181 0), (.ref 718), .none, .none, .none, (.ref 719), (.int 1117 0), (.int 227 0), (.str "/claim/cut.py" 1118)]), #[]⟩
def o721 (P : Params) : Obj := ⟨(.type "function"), (none ), (.func ⟨"found_word", "found_word", (f 59).1, (f 59).2.1, (f 59).2.2, 3, [], .none, .none, .none, (.str "enumcraft.lines" 1057), (none ), (.ref 720), .none, 0⟩), #[]⟩
def o722 (P : Params) : Obj := ⟨(.type "tuple"), (none ), (.seq #[] 0), #[]⟩
def o723 (P : Params) : Obj := ⟨.none, (none ), (.fields #[]), #[]⟩
def o724 (P : Params) : Obj := ⟨.none, (none ), (.func ⟨"found_function", "found_function", (f 60).1, (f 60).2.1, (f 60).2.2, 0, [], .none, .none, .none, .none, (none ), .none, .none, 0⟩), #[]⟩
def o725 (P : Params) : Obj := ⟨(.type "code"), (none ), (.fields #[(.str "found_function" 1120), (.str "found_function" 1121), (.str "/claim/cut.py" 1122), (.int 234 0), (.int 3 0), (.int 0 0), (.int 0 0), (.int 3 0), (.ref 722), (.bool true), (.int 181 0), (.ref 723), .none, .none, .none, (.ref 724), (.int 1123 0), (.int 234 0), (.str "/claim/cut.py" 1124)]), #[]⟩
def o726 (P : Params) : Obj := ⟨(.type "function"), (none ), (.func ⟨"found_function", "found_function", (f 60).1, (f 60).2.1, (f 60).2.2, 3, [], .none, .none, .none, (.str "enumcraft.lines" 1057), (none ), (.ref 725), .none, 0⟩), #[]⟩
def o727 (P : Params) : Obj := ⟨(.type "tuple"), (none ), (.seq #[] 0), #[]⟩
def o728 (P : Params) : Obj := ⟨.none, (none ), (.fields #[]), #[]⟩
def o729 (P : Params) : Obj := ⟨(.type "tuple"), (none ), (.seq #[(.str "bases" 1129), (.str "index" 1130), (.str "base" 1131)] 0), #[]⟩
def o730 (P : Params) : Obj := ⟨(.type "tuple"), (none ), (.seq #[] 0), #[]⟩
def o731 (P : Params) : Obj := ⟨.none, (none ), (.func ⟨"need_bases", "need_bases", (f 61).1, (f 61).2.1, (f 61).2.2, 0, [], .none, .none, .none, .none, (none ), .none, .none, 0⟩), #[]⟩
def o732 (P : Params) : Obj := ⟨(.type "code"), (none ), (.fields #[(.str "need_bases" 1126), (.str "need_bases" 1127), (.str "/claim/cut.py" 1128), (.int 240 0), (.int 1 0), (.int 0 0), (.int 0 0), (.int 3 0), (.ref 727), (.bool true), (.int 181 0), (.ref 728), .none, (.ref 729), (.ref 730), (.ref 731), (.int 1132 0), (.int 240 0), (.str "/claim/cut.py" 1133)]), #[]⟩
def o733 (P : Params) : Obj := ⟨(.type "function"), (none ), (.func ⟨"need_bases", "need_bases", (f 61).1, (f 61).2.1, (f 61).2.2, 3, [], .none, .none, .none, (.str "enumcraft.lines" 1057), (none ), (.ref 732), .none, 0⟩), #[]⟩
def o734 (P : Params) : Obj := ⟨(.type "tuple"), (none ), (.seq #[] 0), #[]⟩
def o735 (P : Params) : Obj := ⟨.none, (none ), (.fields #[]), #[]⟩
def o736 (P : Params) : Obj := ⟨.none, (none ), (.func ⟨"family_of", "family_of", (f 62).1, (f 62).2.1, (f 62).2.2, 0, [], .none, .none, .none, .none, (none ), .none, .none, 0⟩), #[]⟩
def o737 (P : Params) : Obj := ⟨(.type "code"), (none ), (.fields #[(.str "family_of" 1135), (.str "family_of" 1136), (.str "/claim/cut.py" 1137), (.int 246 0), (.int 2 0), (.int 0 0), (.int 0 0), (.int 3 0), (.ref 734), (.bool true), (.int 181 0), (.ref 735), .none, .none, .none, (.ref 736), (.int 1138 0), (.int 246 0), (.str "/claim/cut.py" 1139)]), #[]⟩
def o738 (P : Params) : Obj := ⟨(.type "function"), (none ), (.func ⟨"family_of", "family_of", (f 62).1, (f 62).2.1, (f 62).2.2, 3, [], .none, .none, .none, (.str "enumcraft.lines" 1057), (none ), (.ref 737), .none, 0⟩), #[]⟩
def o739 (P : Params) : Obj := ⟨(.type "tuple"), (none ), (.seq #[] 0), #[]⟩
def o740 (P : Params) : Obj := ⟨.none, (none ), (.fields #[]), #[]⟩
def o741 (P : Params) : Obj := ⟨.none, (none ), (.func ⟨"values_in", "values_in", (f 63).1, (f 63).2.1, (f 63).2.2, 0, [], .none, .none, .none, .none, (none ), .none, .none, 0⟩), #[]⟩
def o742 (P : Params) : Obj := ⟨(.type "code"), (none ), (.fields #[(.str "values_in" 1141), (.str "values_in" 1142), (.str "/claim/cut.py" 1143), (.int 258 0), (.int 1 0), (.int 0 0), (.int 0 0), (.int 3 0), (.ref 739), (.bool true), (.int 181 0), (.ref 740), .none, .none, .none, (.ref 741), (.int 1144 0), (.int 258 0), (.str "/claim/cut.py" 1145)]), #[]⟩
def o743 (P : Params) : Obj := ⟨(.type "function"), (none ), (.func ⟨"values_in", "values_in", (f 63).1, (f 63).2.1, (f 63).2.2, 3, [], .none, .none, .none, (.str "enumcraft.lines" 1057), (none ), (.ref 742), .none, 0⟩), #[]⟩
def o744 (P : Params) : Obj := ⟨(.type "tuple"), (none ), (.seq #[] 0), #[]⟩
def o745 (P : Params) : Obj := ⟨.none, (none ), (.fields #[]), #[]⟩
def o746 (P : Params) : Obj := ⟨(.type "tuple"), (none ), (.seq #[(.str "record" 1150), (.str "found" 1151), (.str "value" 1152)] 0), #[]⟩
def o747 (P : Params) : Obj := ⟨(.type "tuple"), (none ), (.seq #[] 0), #[]⟩
def o748 (P : Params) : Obj := ⟨.none, (none ), (.func ⟨"mask_in", "mask_in", (f 64).1, (f 64).2.1, (f 64).2.2, 0, [], .none, .none, .none, .none, (none ), .none, .none, 0⟩), #[]⟩
def o749 (P : Params) : Obj := ⟨(.type "code"), (none ), (.fields #[(.str "mask_in" 1147), (.str "mask_in" 1148), (.str "/claim/cut.py" 1149), (.int 260 0), (.int 1 0), (.int 0 0), (.int 0 0), (.int 3 0), (.ref 744), (.bool true), (.int 181 0), (.ref 745), .none, (.ref 746), (.ref 747), (.ref 748), (.int 1153 0), (.int 260 0), (.str "/claim/cut.py" 1154)]), #[]⟩
def o750 (P : Params) : Obj := ⟨(.type "function"), (none ), (.func ⟨"mask_in", "mask_in", (f 64).1, (f 64).2.1, (f 64).2.2, 3, [], .none, .none, .none, (.str "enumcraft.lines" 1057), (none ), (.ref 749), .none, 0⟩), #[]⟩
def o751 (P : Params) : Obj := ⟨(.type "tuple"), (none ), (.seq #[] 0), #[]⟩
def o752 (P : Params) : Obj := ⟨.none, (none ), (.fields #[]), #[]⟩
def o753 (P : Params) : Obj := ⟨.none, (none ), (.func ⟨"singles_in", "singles_in", (f 65).1, (f 65).2.1, (f 65).2.2, 0, [], .none, .none, .none, .none, (none ), .none, .none, 0⟩), #[]⟩
def o754 (P : Params) : Obj := ⟨(.type "code"), (none ), (.fields #[(.str "singles_in" 1156), (.str "singles_in" 1157), (.str "/claim/cut.py" 1158), (.int 265 0), (.int 1 0), (.int 0 0), (.int 0 0), (.int 3 0), (.ref 751), (.bool true), (.int 181 0), (.ref 752), .none, .none, .none, (.ref 753), (.int 1159 0), (.int 265 0), (.str "/claim/cut.py" 1160)]), #[]⟩
def o755 (P : Params) : Obj := ⟨(.type "function"), (none ), (.func ⟨"singles_in", "singles_in", (f 65).1, (f 65).2.1, (f 65).2.2, 3, [], .none, .none, .none, (.str "enumcraft.lines" 1057), (none ), (.ref 754), .none, 0⟩), #[]⟩
def o756 (P : Params) : Obj := ⟨(.type "tuple"), (none ), (.seq #[(.str "unique" 1164), (.str "continuous" 1165), (.str "named" 1166)] 0), #[]⟩
def o757 (P : Params) : Obj := ⟨(.type "tuple"), (none ), (.seq #[] 0), #[]⟩
def o758 (P : Params) : Obj := ⟨.none, (none ), (.fields #[]), #[]⟩
def o759 (P : Params) : Obj := ⟨(.type "tuple"), (none ), (.seq #[(.str "kind" 1173)] 0), #[]⟩
def o760 (P : Params) : Obj := ⟨(.type "tuple"), (none ), (.seq #[] 0), #[]⟩
def o761 (P : Params) : Obj := ⟨.none, (none ), (.func ⟨"need_kind", "need_kind", (f 69).1, (f 69).2.1, (f 69).2.2, 0, [], .none, .none, .none, .none, (none ), .none, .none, 0⟩), #[]⟩
def o762 (P : Params) : Obj := ⟨(.type "code"), (none ), (.fields #[(.str "need_kind" 1170), (.str "need_kind" 1171), (.str "/claim/cut.py" 1172), (.int 271 0), (.int 1 0), (.int 0 0), (.int 0 0), (.int 3 0), (.ref 757), (.bool true), (.int 181 0), (.ref 758), .none, (.ref 759), (.ref 760), (.ref 761), (.int 1174 0), (.int 271 0), (.str "/claim/cut.py" 1175)]), #[]⟩
def o763 (P : Params) : Obj := ⟨(.type "function"), (none ), (.func ⟨"need_kind", "need_kind", (f 69).1, (f 69).2.1, (f 69).2.2, 3, [], .none, .none, .none, (.str "enumcraft.checks" 1162), (none ), (.ref 762), .none, 0⟩), #[]⟩
def o764 (P : Params) : Obj := ⟨(.type "tuple"), (none ), (.seq #[] 0), #[]⟩
def o765 (P : Params) : Obj := ⟨.none, (none ), (.fields #[]), #[]⟩
def o766 (P : Params) : Obj := ⟨(.type "tuple"), (none ), (.seq #[(.str "checks" 1180), (.str "index" 1181), (.str "word" 1182)] 0), #[]⟩
def o767 (P : Params) : Obj := ⟨(.type "tuple"), (none ), (.seq #[] 0), #[]⟩
def o768 (P : Params) : Obj := ⟨.none, (none ), (.func ⟨"need_checks", "need_checks", (f 70).1, (f 70).2.1, (f 70).2.2, 0, [], .none, .none, .none, .none, (none ), .none, .none, 0⟩), #[]⟩
def o769 (P : Params) : Obj := ⟨(.type "code"), (none ), (.fields #[(.str "need_checks" 1177), (.str "need_checks" 1178), (.str "/claim/cut.py" 1179), (.int 274 0), (.int 1 0), (.int 0 0), (.int 0 0), (.int 3 0), (.ref 764), (.bool true), (.int 181 0), (.ref 765), .none, (.ref 766), (.ref 767), (.ref 768), (.int 1183 0), (.int 274 0), (.str "/claim/cut.py" 1184)]), #[]⟩
def o770 (P : Params) : Obj := ⟨(.type "function"), (none ), (.func ⟨"need_checks", "need_checks", (f 70).1, (f 70).2.1, (f 70).2.2, 3, [], .none, .none, .none, (.str "enumcraft.checks" 1162), (none ), (.ref 769), .none, 0⟩), #[]⟩
def o771 (P : Params) : Obj := ⟨(.type "tuple"), (none ), (.seq #[] 0), #[]⟩
def o772 (P : Params) : Obj := ⟨.none, (none ), (.fields #[]), #[]⟩
def o773 (P : Params) : Obj := ⟨.none, (none ), (.func ⟨"alias_pairs", "alias_pairs", (f 71).1, (f 71).2.1, (f 71).2.2, 0, [], .none, .none, .none, .none, (none ), .none, .none, 0⟩), #[]⟩
def o774 (P : Params) : Obj := ⟨(.type "code"), (none ), (.fields #[(.str "alias_pairs" 1186), (.str "alias_pairs" 1187), (.str "/claim/cut.py" 1188), (.int 280 0), (.int 1 0), (.int 0 0), (.int 0 0), (.int 3 0), (.ref 771), (.bool true), (.int 181 0), (.ref 772), .none, .none, .none, (.ref 773), (.int 1189 0), (.int 280 0), (.str "/claim/cut.py" 1190)]), #[]⟩
def o775 (P : Params) : Obj := ⟨(.type "function"), (none ), (.func ⟨"alias_pairs", "alias_pairs", (f 71).1, (f 71).2.1, (f 71).2.2, 3, [], .none, .none, .none, (.str "enumcraft.checks" 1162), (none ), (.ref 774), .none, 0⟩), #[]⟩
def o776 (P : Params) : Obj := ⟨(.type "tuple"), (none ), (.seq #[] 0), #[]⟩
def o777 (P : Params) : Obj := ⟨.none, (none ), (.fields #[]), #[]⟩
def o778 (P : Params) : Obj := ⟨.none, (none ), (.func ⟨"gaps", "gaps", (f 72).1, (f 72).2.1, (f 72).2.2, 0, [], .none, .none, .none, .none, (none ), .none, .none, 0⟩), #[]⟩
def o779 (P : Params) : Obj := ⟨(.type "code"), (none ), (.fields #[(.str "gaps" 1192), (.str "gaps" 1193), (.str "/claim/cut.py" 1194), (.int 284 0), (.int 1 0), (.int 0 0), (.int 0 0), (.int 3 0), (.ref 776), (.bool true), (.int 181 0), (.ref 777), .none, .none, .none, (.ref 778), (.int 1195 0), (.int 284 0), (.str "/claim/cut.py" 1196)]), #[]⟩
def o780 (P : Params) : Obj := ⟨(.type "function"), (none ), (.func ⟨"gaps", "gaps", (f 72).1, (f 72).2.1, (f 72).2.2, 3, [], .none, .none, .none, (.str "enumcraft.checks" 1162), (none ), (.ref 779), .none, 0⟩), #[]⟩
def o781 (P : Params) : Obj := ⟨(.type "tuple"), (none ), (.seq #[] 0), #[]⟩
def o782 (P : Params) : Obj := ⟨.none, (none ), (.fields #[]), #[]⟩
def o783 (P : Params) : Obj := ⟨.none, (none ), (.func ⟨"missing_numbers", "missing_numbers", (f 73).1, (f 73).2.1, (f 73).2.2, 0, [], .none, .none, .none, .none, (none ), .none, .none, 0⟩), #[]⟩
def o784 (P : Params) : Obj := ⟨(.type "code"), (none ), (.fields #[(.str "missing_numbers" 1198), (.str "missing_numbers" 1199), (.str "/claim/cut.py" 1200), (.int 293 0), (.int 1 0), (.int 0 0), (.int 0 0), (.int 3 0), (.ref 781), (.bool true), (.int 181 0), (.ref 782), .none, .none, .none, (.ref 783), (.int 1201 0), (.int 293 0), (.str "/claim/cut.py" 1202)]), #[]⟩
def o785 (P : Params) : Obj := ⟨(.type "function"), (none ), (.func ⟨"missing_numbers", "missing_numbers", (f 73).1, (f 73).2.1, (f 73).2.2, 3, [], .none, .none, .none, (.str "enumcraft.checks" 1162), (none ), (.ref 784), .none, 0⟩), #[]⟩
def o786 (P : Params) : Obj := ⟨(.type "tuple"), (none ), (.seq #[] 0), #[]⟩
def o787 (P : Params) : Obj := ⟨.none, (none ), (.fields #[]), #[]⟩
def o788 (P : Params) : Obj := ⟨.none, (none ), (.func ⟨"unlisted_bits", "unlisted_bits", (f 74).1, (f 74).2.1, (f 74).2.2, 0, [], .none, .none, .none, .none, (none ), .none, .none, 0⟩), #[]⟩
def o789 (P : Params) : Obj := ⟨(.type "code"), (none ), (.fields #[(.str "unlisted_bits" 1204), (.str "unlisted_bits" 1205), (.str "/claim/cut.py" 1206), (.int 303 0), (.int 1 0), (.int 0 0), (.int 0 0), (.int 3 0), (.ref 786), (.bool true), (.int 181 0), (.ref 787), .none, .none, .none, (.ref 788), (.int 1207 0), (.int 303 0), (.str "/claim/cut.py" 1208)]), #[]⟩
def o790 (P : Params) : Obj := ⟨(.type "function"), (none ), (.func ⟨"unlisted_bits", "unlisted_bits", (f 74).1, (f 74).2.1, (f 74).2.2, 3, [], .none, .none, .none, (.str "enumcraft.checks" 1162), (none ), (.ref 789), .none, 0⟩), #[]⟩
def o791 (P : Params) : Obj := ⟨(.type "tuple"), (none ), (.seq #[] 0), #[]⟩
def o792 (P : Params) : Obj := ⟨.none, (none ), (.fields #[]), #[]⟩
def o793 (P : Params) : Obj := ⟨(.type "tuple"), (none ), (.seq #[(.str "kind" 1213), (.str "checks" 1214), (.str "word" 1215), (.str "doubles" 1216), (.str "lacking" 1217), (.str "unlisted" 1218)] 0), #[]⟩
def o794 (P : Params) : Obj := ⟨(.type "tuple"), (none ), (.seq #[] 0), #[]⟩
def o795 (P : Params) : Obj := ⟨.none, (none ), (.func ⟨"check_all", "check_all", (f 75).1, (f 75).2.1, (f 75).2.2, 0, [], .none, .none, .none, .none, (none ), .none, .none, 0⟩), #[]⟩
def o796 (P : Params) : Obj := ⟨(.type "code"), (none ), (.fields #[(.str "check_all" 1210), (.str "check_all" 1211), (.str "/claim/cut.py" 1212), (.int 309 0), (.int 2 0), (.int 0 0), (.int 0 0), (.int 3 0), (.ref 791), (.bool true), (.int 181 0), (.ref 792), .none, (.ref 793), (.ref 794), (.ref 795), (.int 1219 0), (.int 309 0), (.str "/claim/cut.py" 1220)]), #[]⟩
def o797 (P : Params) : Obj := ⟨(.type "function"), (none ), (.func ⟨"check_all", "check_all", (f 75).1, (f 75).2.1, (f 75).2.2, 3, [], .none, .none, .none, (.str "enumcraft.checks" 1162), (none ), (.ref 796), .none, 0⟩), #[]⟩
def tree1 (P : Params) : PySem.W.BT := (.node (o0 P) (.node (o1 P) (.node (o3 P) (.node (o7 P) (.node (o15 P) (.node (o31 P) (.node (o63 P) (.node (o127 P) (.node (o255 P) (.node (o511 P) .nil .nil) (.node (o767 P) .nil .nil)) (.node (o383 P) (.node (o639 P) .nil .nil) .nil)) (.node (o191 P) (.node (o319 P) (.node (o575 P) .nil .nil) .nil) (.node (o447 P) (.node (o703 P) .nil .nil) .nil))) (.node (o95 P) (.node (o159 P) (.node (o287 P) (.node (o543 P) .nil .nil) .nil) (.node (o415 P) (.node (o671 P) .nil .nil) .nil)) (.node (o223 P) (.node (o351 P) (.node (o607 P) .nil .nil) .nil) (.node (o479 P) (.node (o735 P) .nil .nil) .nil)))) (.node (o47 P) (.node (o79 P) (.node (o143 P) (.node (o271 P) (.node (o527 P) .nil .nil) (.node (o783 P) .nil .nil)) (.node (o399 P) (.node (o655 P) .nil .nil) .nil)) (.node (o207 P) (.node (o335 P) (.node (o591 P) .nil .nil) .nil) (.node (o463 P) (.node (o719 P) .nil .nil) .nil))) (.node (o111 P) (.node (o175 P) (.node (o303 P) (.node (o559 P) .nil .nil) .nil) (.node (o431 P) (.node (o687 P) .nil .nil) .nil)) (.node (o239 P) (.node (o367 P) (.node (o623 P) .nil .nil) .nil) (.node (o495 P) (.node (o751 P) .nil .nil) .nil))))) (.node (o23 P) (.node (o39 P) (.node (o71 P) (.node (o135 P) (.node (o263 P) (.node (o519 P) .nil .nil) (.node (o775 P) .nil .nil)) (.node (o391 P) (.node (o647 P) .nil .nil) .nil)) (.node (o199 P) (.node (o327 P) (.node (o583 P) .nil .nil) .nil) (.node (o455 P) (.node (o711 P) .nil .nil) .nil))) (.node (o103 P) (.node (o167 P) (.node (o295 P) (.node (o551 P) .nil .nil) .nil) (.node (o423 P) (.node (o679 P) .nil .nil) .nil)) (.node (o231 P) (.node (o359 P) (.node (o615 P) .nil .nil) .nil) (.node (o487 P) (.node (o743 P) .nil .nil) .nil)))) (.node (o55 P) (.node (o87 P) (.node (o151 P) (.node (o279 P) (.node (o535 P) .nil .nil) (.node (o791 P) .nil .nil)) (.node (o407 P) (.node (o663 P) .nil .nil) .nil)) (.node (o215 P) (.node (o343 P) (.node (o599 P) .nil .nil) .nil) (.node (o471 P) (.node (o727 P) .nil .nil) .nil))) (.node (o119 P) (.node (o183 P) (.node (o311 P) (.node (o567 P) .nil .nil) .nil) (.node (o439 P) (.node (o695 P) .nil .nil) .nil)) (.node (o247 P) (.node (o375 P) (.node (o631 P) .nil .nil) .nil) (.node (o503 P) (.node (o759 P) .nil .nil) .nil)))))) (.node (o11 P) (.node (o19 P) (.node (o35 P) (.node (o67 P) (.node (o131 P) (.node (o259 P) (.node (o515 P) .nil .nil) (.node (o771 P) .nil .nil)) (.node (o387 P) (.node (o643 P) .nil .nil) .nil)) (.node (o195 P) (.node (o323 P) (.node (o579 P) .nil .nil) .nil) (.node (o451 P) (.node (o707 P) .nil .nil) .nil))) (.node (o99 P) (.node (o163 P) (.node (o291 P) (.node (o547 P) .nil .nil) .nil) (.node (o419 P) (.node (o675 P) .nil .nil) .nil)) (.node (o227 P) (.node (o355 P) (.node (o611 P) .nil .nil) .nil) (.node (o483 P) (.node (o739 P) .nil .nil) .nil)))) (.node (o51 P) (.node (o83 P) (.node (o147 P) (.node (o275 P) (.node (o531 P) .nil .nil) (.node (o787 P) .nil .nil)) (.node (o403 P) (.node (o659 P) .nil .nil) .nil)) (.node (o211 P) (.node (o339 P) (.node (o595 P) .nil .nil) .nil) (.node (o467 P) (.node (o723 P) .nil .nil) .nil))) (.node (o115 P) (.node (o179 P) (.node (o307 P) (.node (o563 P) .nil .nil) .nil) (.node (o435 P) (.node (o691 P) .nil .nil) .nil)) (.node (o243 P) (.node (o371 P) (.node (o627 P) .nil .nil) .nil) (.node (o499 P) (.node (o755 P) .nil .nil) .nil))))) (.node (o27 P) (.node (o43 P) (.node (o75 P) (.node (o139 P) (.node (o267 P) (.node (o523 P) .nil .nil) (.node (o779 P) .nil .nil)) (.node (o395 P) (.node (o651 P) .nil .nil) .nil)) (.node (o203 P) (.node (o331 P) (.node (o587 P) .nil .nil) .nil) (.node (o459 P) (.node (o715 P) .nil .nil) .nil))) (.node (o107 P) (.node (o171 P) (.node (o299 P) (.node (o555 P) .nil .nil) .nil) (.node (o427 P) (.node (o683 P) .nil .nil) .nil)) (.node (o235 P) (.node (o363 P) (.node (o619 P) .nil .nil) .nil) (.node (o491 P) (.node (o747 P) .nil .nil) .nil)))) (.node (o59 P) (.node (o91 P) (.node (o155 P) (.node (o283 P) (.node (o539 P) .nil .nil) (.node (o795 P) .nil .nil)) (.node (o411 P) (.node (o667 P) .nil .nil) .nil)) (.node (o219 P) (.node (o347 P) (.node (o603 P) .nil .nil) .nil) (.node (o475 P) (.node (o731 P) .nil .nil) .nil))) (.node (o123 P) (.node (o187 P) (.node (o315 P) (.node (o571 P) .nil .nil) .nil) (.node (o443 P) (.node (o699 P) .nil .nil) .nil)) (.node (o251 P) (.node (o379 P) (.node (o635 P) .nil .nil) .nil) (.node (o507 P) (.node (o763 P) .nil .nil) .nil))))))) (.node (o5 P) (.node (o9 P) (.node (o17 P) (.node (o33 P) (.node (o65 P) (.node (o129 P) (.node (o257 P) (.node (o513 P) .nil .nil) (.node (o769 P) .nil .nil)) (.node (o385 P) (.node (o641 P) .nil .nil) .nil)) (.node (o193 P) (.node (o321 P) (.node (o577 P) .nil .nil) .nil) (.node (o449 P) (.node (o705 P) .nil .nil) .nil))) (.node (o97 P) (.node (o161 P) (.node (o289 P) (.node (o545 P) .nil .nil) .nil) (.node (o417 P) (.node (o673 P) .nil .nil) .nil)) (.node (o225 P) (.node (o353 P) (.node (o609 P) .nil .nil) .nil) (.node (o481 P) (.node (o737 P) .nil .nil) .nil)))) (.node (o49 P) (.node (o81 P) (.node (o145 P) (.node (o273 P) (.node (o529 P) .nil .nil) (.node (o785 P) .nil .nil)) (.node (o401 P) (.node (o657 P) .nil .nil) .nil)) (.node (o209 P) (.node (o337 P) (.node (o593 P) .nil .nil) .nil) (.node (o465 P) (.node (o721 P) .nil .nil) .nil))) (.node (o113 P) (.node (o177 P) (.node (o305 P) (.node (o561 P) .nil .nil) .nil) (.node (o433 P) (.node (o689 P) .nil .nil) .nil)) (.node (o241 P) (.node (o369 P) (.node (o625 P) .nil .nil) .nil) (.node (o497 P) (.node (o753 P) .nil .nil) .nil))))) (.node (o25 P) (.node (o41 P) (.node (o73 P) (.node (o137 P) (.node (o265 P) (.node (o521 P) .nil .nil) (.node (o777 P) .nil .nil)) (.node (o393 P) (.node (o649 P) .nil .nil) .nil)) (.node (o201 P) (.node (o329 P) (.node (o585 P) .nil .nil) .nil) (.node (o457 P) (.node (o713 P) .nil .nil) .nil))) (.node (o105 P) (.node (o169 P) (.node (o297 P) (.node (o553 P) .nil .nil) .nil) (.node (o425 P) (.node (o681 P) .nil .nil) .nil)) (.node (o233 P) (.node (o361 P) (.node (o617 P) .nil .nil) .nil) (.node (o489 P) (.node (o745 P) .nil .nil) .nil)))) (.node (o57 P) (.node (o89 P) (.node (o153 P) (.node (o281 P) (.node (o537 P) .nil .nil) (.node (o793 P) .nil .nil)) (.node (o409 P) (.node (o665 P) .nil .nil) .nil)) (.node (o217 P) (.node (o345 P) (.node (o601 P) .nil .nil) .nil) (.node (o473 P) (.node (o729 P) .nil .nil) .nil))) (.node (o121 P) (.node (o185 P) (.node (o313 P) (.node (o569 P) .nil .nil) .nil) (.node (o441 P) (.node (o697 P) .nil .nil) .nil)) (.node (o249 P) (.node (o377 P) (.node (o633 P) .nil .nil) .nil) (.node (o505 P) (.node (o761 P) .nil .nil) .nil)))))) (.node (o13 P) (.node (o21 P) (.node (o37 P) (.node (o69 P) (.node (o133 P) (.node (o261 P) (.node (o517 P) .nil .nil) (.node (o773 P) .nil .nil)) (.node (o389 P) (.node (o645 P) .nil .nil) .nil)) (.node (o197 P) (.node (o325 P) (.node (o581 P) .nil .nil) .nil) (.node (o453 P) (.node (o709 P) .nil .nil) .nil))) (.node (o101 P) (.node (o165 P) (.node (o293 P) (.node (o549 P) .nil .nil) .nil) (.node (o421 P) (.node (o677 P) .nil .nil) .nil)) (.node (o229 P) (.node (o357 P) (.node (o613 P) .nil .nil) .nil) (.node (o485 P) (.node (o741 P) .nil .nil) .nil)))) (.node (o53 P) (.node (o85 P) (.node (o149 P) (.node (o277 P) (.node (o533 P) .nil .nil) (.node (o789 P) .nil .nil)) (.node (o405 P) (.node (o661 P) .nil .nil) .nil)) (.node (o213 P) (.node (o341 P) (.node (o597 P) .nil .nil) .nil) (.node (o469 P) (.node (o725 P) .nil .nil) .nil))) (.node (o117 P) (.node (o181 P) (.node (o309 P) (.node (o565 P) .nil .nil) .nil) (.node (o437 P) (.node (o693 P) .nil .nil) .nil)) (.node (o245 P) (.node (o373 P) (.node (o629 P) .nil .nil) .nil) (.node (o501 P) (.node (o757 P) .nil .nil) .nil))))) (.node (o29 P) (.node (o45 P) (.node (o77 P) (.node (o141 P) (.node (o269 P) (.node (o525 P) .nil .nil) (.node (o781 P) .nil .nil)) (.node (o397 P) (.node (o653 P) .nil .nil) .nil)) (.node (o205 P) (.node (o333 P) (.node (o589 P) .nil .nil) .nil) (.node (o461 P) (.node (o717 P) .nil .nil) .nil))) (.node (o109 P) (.node (o173 P) (.node (o301 P) (.node (o557 P) .nil .nil) .nil) (.node (o429 P) (.node (o685 P) .nil .nil) .nil)) (.node (o237 P) (.node (o365 P) (.node (o621 P) .nil .nil) .nil) (.node (o493 P) (.node (o749 P) .nil .nil) .nil)))) (.node (o61 P) (.node (o93 P) (.node (o157 P) (.node (o285 P) (.node (o541 P) .nil .nil) (.node (o797 P) .nil .nil)) (.node (o413 P) (.node (o669 P) .nil .nil) .nil)) (.node (o221 P) (.node (o349 P) (.node (o605 P) .nil .nil) .nil) (.node (o477 P) (.node (o733 P) .nil .nil) .nil))) (.node (o125 P) (.node (o189 P) (.node (o317 P) (.node (o573 P) .nil .nil) .nil) (.node (o445 P) (.node (o701 P) .nil .nil) .nil)) (.node (o253 P) (.node (o381 P) (.node (o637 P) .nil .nil) .nil) (.node (o509 P) (.node (o765 P) .nil .nil) .nil)))))))) (.node (o2 P) (.node (o4 P) (.node (o8 P) (.node (o16 P) (.node (o32 P) (.node (o64 P) (.node (o128 P) (.node (o256 P) (.node (o512 P) .nil .nil) (.node (o768 P) .nil .nil)) (.node (o384 P) (.node (o640 P) .nil .nil) .nil)) (.node (o192 P) (.node (o320 P) (.node (o576 P) .nil .nil) .nil) (.node (o448 P) (.node (o704 P) .nil .nil) .nil))) (.node (o96 P) (.node (o160 P) (.node (o288 P) (.node (o544 P) .nil .nil) .nil) (.node (o416 P) (.node (o672 P) .nil .nil) .nil)) (.node (o224 P) (.node (o352 P) (.node (o608 P) .nil .nil) .nil) (.node (o480 P) (.node (o736 P) .nil .nil) .nil)))) (.node (o48 P) (.node (o80 P) (.node (o144 P) (.node (o272 P) (.node (o528 P) .nil .nil) (.node (o784 P) .nil .nil)) (.node (o400 P) (.node (o656 P) .nil .nil) .nil)) (.node (o208 P) (.node (o336 P) (.node (o592 P) .nil .nil) .nil) (.node (o464 P) (.node (o720 P) .nil .nil) .nil))) (.node (o112 P) (.node (o176 P) (.node (o304 P) (.node (o560 P) .nil .nil) .nil) (.node (o432 P) (.node (o688 P) .nil .nil) .nil)) (.node (o240 P) (.node (o368 P) (.node (o624 P) .nil .nil) .nil) (.node (o496 P) (.node (o752 P) .nil .nil) .nil))))) (.node (o24 P) (.node (o40 P) (.node (o72 P) (.node (o136 P) (.node (o264 P) (.node (o520 P) .nil .nil) (.node (o776 P) .nil .nil)) (.node (o392 P) (.node (o648 P) .nil .nil) .nil)) (.node (o200 P) (.node (o328 P) (.node (o584 P) .nil .nil) .nil) (.node (o456 P) (.node (o712 P) .nil .nil) .nil))) (.node (o104 P) (.node (o168 P) (.node (o296 P) (.node (o552 P) .nil .nil) .nil) (.node (o424 P) (.node (o680 P) .nil .nil) .nil)) (.node (o232 P) (.node (o360 P) (.node (o616 P) .nil .nil) .nil) (.node (o488 P) (.node (o744 P) .nil .nil) .nil)))) (.node (o56 P) (.node (o88 P) (.node (o152 P) (.node (o280 P) (.node (o536 P) .nil .nil) (.node (o792 P) .nil .nil)) (.node (o408 P) (.node (o664 P) .nil .nil) .nil)) (.node (o216 P) (.node (o344 P) (.node (o600 P) .nil .nil) .nil) (.node (o472 P) (.node (o728 P) .nil .nil) .nil))) (.node (o120 P) (.node (o184 P) (.node (o312 P) (.node (o568 P) .nil .nil) .nil) (.node (o440 P) (.node (o696 P) .nil .nil) .nil)) (.node (o248 P) (.node (o376 P) (.node (o632 P) .nil .nil) .nil) (.node (o504 P) (.node (o760 P) .nil .nil) .nil)))))) (.node (o12 P) (.node (o20 P) (.node (o36 P) (.node (o68 P) (.node (o132 P) (.node (o260 P) (.node (o516 P) .nil .nil) (.node (o772 P) .nil .nil)) (.node (o388 P) (.node (o644 P) .nil .nil) .nil)) (.node (o196 P) (.node (o324 P) (.node (o580 P) .nil .nil) .nil) (.node (o452 P) (.node (o708 P) .nil .nil) .nil))) (.node (o100 P) (.node (o164 P) (.node (o292 P) (.node (o548 P) .nil .nil) .nil) (.node (o420 P) (.node (o676 P) .nil .nil) .nil)) (.node (o228 P) (.node (o356 P) (.node (o612 P) .nil .nil) .nil) (.node (o484 P) (.node (o740 P) .nil .nil) .nil)))) (.node (o52 P) (.node (o84 P) (.node (o148 P) (.node (o276 P) (.node (o532 P) .nil .nil) (.node (o788 P) .nil .nil)) (.node (o404 P) (.node (o660 P) .nil .nil) .nil)) (.node (o212 P) (.node (o340 P) (.node (o596 P) .nil .nil) .nil) (.node (o468 P) (.node (o724 P) .nil .nil) .nil))) (.node (o116 P) (.node (o180 P) (.node (o308 P) (.node (o564 P) .nil .nil) .nil) (.node (o436 P) (.node (o692 P) .nil .nil) .nil)) (.node (o244 P) (.node (o372 P) (.node (o628 P) .nil .nil) .nil) (.node (o500 P) (.node (o756 P) .nil .nil) .nil))))) (.node (o28 P) (.node (o44 P) (.node (o76 P) (.node (o140 P) (.node (o268 P) (.node (o524 P) .nil .nil) (.node (o780 P) .nil .nil)) (.node (o396 P) (.node (o652 P) .nil .nil) .nil)) (.node (o204 P) (.node (o332 P) (.node (o588 P) .nil .nil) .nil) (.node (o460 P) (.node (o716 P) .nil .nil) .nil))) (.node (o108 P) (.node (o172 P) (.node (o300 P) (.node (o556 P) .nil .nil) .nil) (.node (o428 P) (.node (o684 P) .nil .nil) .nil)) (.node (o236 P) (.node (o364 P) (.node (o620 P) .nil .nil) .nil) (.node (o492 P) (.node (o748 P) .nil .nil) .nil)))) (.node (o60 P) (.node (o92 P) (.node (o156 P) (.node (o284 P) (.node (o540 P) .nil .nil) (.node (o796 P) .nil .nil)) (.node (o412 P) (.node (o668 P) .nil .nil) .nil)) (.node (o220 P) (.node (o348 P) (.node (o604 P) .nil .nil) .nil) (.node (o476 P) (.node (o732 P) .nil .nil) .nil))) (.node (o124 P) (.node (o188 P) (.node (o316 P) (.node (o572 P) .nil .nil) .nil) (.node (o444 P) (.node (o700 P) .nil .nil) .nil)) (.node (o252 P) (.node (o380 P) (.node (o636 P) .nil .nil) .nil) (.node (o508 P) (.node (o764 P) .nil .nil) .nil))))))) (.node (o6 P) (.node (o10 P) (.node (o18 P) (.node (o34 P) (.node (o66 P) (.node (o130 P) (.node (o258 P) (.node (o514 P) .nil .nil) (.node (o770 P) .nil .nil)) (.node (o386 P) (.node (o642 P) .nil .nil) .nil)) (.node (o194 P) (.node (o322 P) (.node (o578 P) .nil .nil) .nil) (.node (o450 P) (.node (o706 P) .nil .nil) .nil))) (.node (o98 P) (.node (o162 P) (.node (o290 P) (.node (o546 P) .nil .nil) .nil) (.node (o418 P) (.node (o674 P) .nil .nil) .nil)) (.node (o226 P) (.node (o354 P) (.node (o610 P) .nil .nil) .nil) (.node (o482 P) (.node (o738 P) .nil .nil) .nil)))) (.node (o50 P) (.node (o82 P) (.node (o146 P) (.node (o274 P) (.node (o530 P) .nil .nil) (.node (o786 P) .nil .nil)) (.node (o402 P) (.node (o658 P) .nil .nil) .nil)) (.node (o210 P) (.node (o338 P) (.node (o594 P) .nil .nil) .nil) (.node (o466 P) (.node (o722 P) .nil .nil) .nil))) (.node (o114 P) (.node (o178 P) (.node (o306 P) (.node (o562 P) .nil .nil) .nil) (.node (o434 P) (.node (o690 P) .nil .nil) .nil)) (.node (o242 P) (.node (o370 P) (.node (o626 P) .nil .nil) .nil) (.node (o498 P) (.node (o754 P) .nil .nil) .nil))))) (.node (o26 P) (.node (o42 P) (.node (o74 P) (.node (o138 P) (.node (o266 P) (.node (o522 P) .nil .nil) (.node (o778 P) .nil .nil)) (.node (o394 P) (.node (o650 P) .nil .nil) .nil)) (.node (o202 P) (.node (o330 P) (.node (o586 P) .nil .nil) .nil) (.node (o458 P) (.node (o714 P) .nil .nil) .nil))) (.node (o106 P) (.node (o170 P) (.node (o298 P) (.node (o554 P) .nil .nil) .nil) (.node (o426 P) (.node (o682 P) .nil .nil) .nil)) (.node (o234 P) (.node (o362 P) (.node (o618 P) .nil .nil) .nil) (.node (o490 P) (.node (o746 P) .nil .nil) .nil)))) (.node (o58 P) (.node (o90 P) (.node (o154 P) (.node (o282 P) (.node (o538 P) .nil .nil) (.node (o794 P) .nil .nil)) (.node (o410 P) (.node (o666 P) .nil .nil) .nil)) (.node (o218 P) (.node (o346 P) (.node (o602 P) .nil .nil) .nil) (.node (o474 P) (.node (o730 P) .nil .nil) .nil))) (.node (o122 P) (.node (o186 P) (.node (o314 P) (.node (o570 P) .nil .nil) .nil) (.node (o442 P) (.node (o698 P) .nil .nil) .nil)) (.node (o250 P) (.node (o378 P) (.node (o634 P) .nil .nil) .nil) (.node (o506 P) (.node (o762 P) .nil .nil) .nil)))))) (.node (o14 P) (.node (o22 P) (.node (o38 P) (.node (o70 P) (.node (o134 P) (.node (o262 P) (.node (o518 P) .nil .nil) (.node (o774 P) .nil .nil)) (.node (o390 P) (.node (o646 P) .nil .nil) .nil)) (.node (o198 P) (.node (o326 P) (.node (o582 P) .nil .nil) .nil) (.node (o454 P) (.node (o710 P) .nil .nil) .nil))) (.node (o102 P) (.node (o166 P) (.node (o294 P) (.node (o550 P) .nil .nil) .nil) (.node (o422 P) (.node (o678 P) .nil .nil) .nil)) (.node (o230 P) (.node (o358 P) (.node (o614 P) .nil .nil) .nil) (.node (o486 P) (.node (o742 P) .nil .nil) .nil)))) (.node (o54 P) (.node (o86 P) (.node (o150 P) (.node (o278 P) (.node (o534 P) .nil .nil) (.node (o790 P) .nil .nil)) (.node (o406 P) (.node (o662 P) .nil .nil) .nil)) (.node (o214 P) (.node (o342 P) (.node (o598 P) .nil .nil) .nil) (.node (o470 P) (.node (o726 P) .nil .nil) .nil))) (.node (o118 P) (.node (o182 P) (.node (o310 P) (.node (o566 P) .nil .nil) .nil) (.node (o438 P) (.node (o694 P) .nil .nil) .nil)) (.node (o246 P) (.node (o374 P) (.node (o630 P) .nil .nil) .nil) (.node (o502 P) (.node (o758 P) .nil .nil) .nil))))) (.node (o30 P) (.node (o46 P) (.node (o78 P) (.node (o142 P) (.node (o270 P) (.node (o526 P) .nil .nil) (.node (o782 P) .nil .nil)) (.node (o398 P) (.node (o654 P) .nil .nil) .nil)) (.node (o206 P) (.node (o334 P) (.node (o590 P) .nil .nil) .nil) (.node (o462 P) (.node (o718 P) .nil .nil) .nil))) (.node (o110 P) (.node (o174 P) (.node (o302 P) (.node (o558 P) .nil .nil) .nil) (.node (o430 P) (.node (o686 P) .nil .nil) .nil)) (.node (o238 P) (.node (o366 P) (.node (o622 P) .nil .nil) .nil) (.node (o494 P) (.node (o750 P) .nil .nil) .nil)))) (.node (o62 P) (.node (o94 P) (.node (o158 P) (.node (o286 P) (.node (o542 P) .nil .nil) .nil) (.node (o414 P) (.node (o670 P) .nil .nil) .nil)) (.node (o222 P) (.node (o350 P) (.node (o606 P) .nil .nil) .nil) (.node (o478 P) (.node (o734 P) .nil .nil) .nil))) (.node (o126 P) (.node (o190 P) (.node (o318 P) (.node (o574 P) .nil .nil) .nil) (.node (o446 P) (.node (o702 P) .nil .nil) .nil)) (.node (o254 P) (.node (o382 P) (.node (o638 P) .nil .nil) .nil) (.node (o510 P) (.node (o766 P) .nil .nil) .nil)))))))))

abbrev pos0 : Pos := ⟨0, 0, 0, 0⟩
abbrev posB : Pos := ⟨324, 0, 324, 12⟩
abbrev env0 : Env := topEnv R.prog 13 14
theorem size_ (w : World) : (boot_heap w.params).objs.size = 11 := by kernel_rfl
theorem ann_ (w : World) : bootAnn w = some (.ref 6) := by kernel_rfl
theorem body_ : behindTheImports R.prog = R.prog.main.body := by kernel_rfl
theorem pre_ (w : World) (os : OsState) : (match putAll (boot_heap w.params).objs.toList .nil 0 with
    | some r => goS (stepQ (denQ tabQ) R.prog w) 11 (some (.ref 6)) 12 (bootT w os r) (topStub R.prog)
    | none => none) = some (atW treeA 15 187 w os, ⟨denQ tabQ (.body R.prog.main.body env0), .body R.prog.main.body env0, pos0, [topFrame pos0]⟩) := by kernel_rfl
theorem block_ (w : World) (os : OsState) : segF (stepQ (denQ tabQ) R.prog w) 11 (some (.ref 6)) 1 (atW treeA 15 187 w os) (blockOf R.prog.main.body env0 (.body R.prog.main.body env0) pos0 [topFrame pos0]) = some (.next, atW treeA 15 187 w os, .body R.prog.main.body env0, pos0) := by kernel_rfl
end EcHead
end
end
section
set_option Elab.async false
set_option linter.all false
set_option maxRecDepth 100000
set_option maxHeartbeats 0
noncomputable section
namespace EcHead
open PySem PySem.W PySem.Calls PyProof.Rows HandSHeadRun
theorem seg_ (w : World) (os : OsState) : segF (stepQ (denQ tabQ) R.prog w) 11 (some (.ref 6)) 8435 (atW treeA 15 187 w os) (piecesQ (R.prog.main.body.take 78) env0 (.body R.prog.main.body env0) pos0 [topFrame pos0]) = some (.next, atW tree1 798 1226 w os, .body R.prog.main.body env0, posB) := by kernel_rfl
theorem one (w : World) : Part1 R.prog env0 78 11 15 798 187 1226 12 8435 (some (.ref 6)) treeA tree1 pos0 posB pos0 w := ⟨size_ w, ann_ w, body_, pre_ w, block_ w, seg_ w⟩
end EcHead
end
end
section
set_option Elab.async false
set_option linter.all false
set_option maxRecDepth 100000
set_option maxHeartbeats 2000000
/-! X1: what the top leaves, read by a Hook of our own. -/
namespace EC
open PySem PySem.Spec PyProof.Rows L2 He
def refsE (o : Obj) : List Addr := match o.data with
  | .func fd => refV fd.code ++ (refV fd.defaults ++ (refV fd.kwdefaults ++ fd.closure.map (·.2)))
  | .cls cd => [cd.ns]
  | .dict es _ => es.toList.flatMap fun e => refV e.val
  | .seq its _ => its.toList.flatMap refV
  | .fields vs => (match o.cls with
    | .type n => (match decide (n = "property") with
      | true => vs.toList.flatMap refV
      | false => [])
    | _ => [])
  | _ => []
def frE (g : Addr → Option Obj) : Nat → List Addr → List Addr
  | 0, as => as
  | n + 1, as => as ++ frE g n (as.flatMap fun a => match g a with
    | some o => refsE o
    | none => [])
def nmG0 : List Str := ["is_integer", "is_text", "is_name", "is_reserved", "is_nested", "is_value", "is_flag_value", "need_flag_values", "bits_of", "split", "kept_reading", "reading", "line_behind", "need_bases", "family_of", "values_in", "mask_in", "need_checks", "check_all", "has_form", "wrong_form", "with_member", "given_value", "fits", "carried_out"]
def nmG1 : List Str := ["all_carried_out", "first_rows", "names_of", "place_of", "singles_of", "is_one_of", "need_form", "need_options", "boundary_of", "_law_cell", "_law_rows", "_law_flag", "_law_mask", "_law_number", "_law_two_right", "_law_three_right", "_law_parts_right", "law", "value_of_name_members", "Record", "Member", "FlagMember", "Kind", "KindRoot", "FAMILIES"]
def nmG2 : List Str := ["BOUNDARIES", "SIZES"]
def nmG : List Str := nmG0 ++ nmG1 ++ nmG2
def addrsE (g : Addr → Option Obj) : List Addr := mainGlobals :: cStatics :: frE g 4 (nmG.map fun x => ga (frG g [mainGlobals, cStatics]) x)
/-! defs -/
structure D2 where
  at_ : PySem.W.Frag → Addr
  name : Str
  qual : Str
  st : Stmt
  dvs : PySem.W.Frag → List V := fun _ => []
  kws : PySem.W.Frag → List (Str × V) := fun _ => []
  cl : List Str := []
abbrev FnE : Type := Option (Str × Str × Arguments × FuncBody × Scope × Addr × List Str × Addr)
def fnE (K : PySem.W.Frag) (a : Addr) : FnE := match K.lookup a with
  | some ⟨_, _, .func fd, _⟩ => some (fd.name, fd.qualname, fd.params, fd.body, fd.scope, fd.globals, fd.closure.map (·.1), fd.builtins)
  | _ => none
def D2.val (d : D2) : FnE := some (d.name, d.qual, defArgs d.st, .stmts (defBody d.st), defScope d.st, mainGlobals, d.cl, builtinsNs)
def D2.ok (K : PySem.W.Frag) (d : D2) : Bool := PySem.W.keepIn K (.ref (d.at_ K)) && (match K.lookup (d.at_ K) with
  | some ⟨_, _, .func fd, _⟩ => PySem.W.codeIn K fd.code d.qual && (dflB K fd.defaults (d.dvs K) && kwdB K fd.kwdefaults (d.kws K))
  | _ => false)
theorem D2.get {K : PySem.W.Frag} {d : D2} (e : fnE K (d.at_ K) = d.val) (c : d.ok K = true) : PySem.W.keepIn K (.ref (d.at_ K)) = true ∧ ∃ (oc : Value) (od : Option Addr) (dV kV doc pm : Value) (an : Option Addr) (cdv ct : Value) (osl : Array (Option Value)) (cl : List (Str × Addr)),
    K.lookup (d.at_ K) = some ⟨oc, od, .func (PySem.W.fnX d.name d.qual (defArgs d.st) (defBody d.st) (defScope d.st) cl dV kV doc pm an cdv ct), osl⟩ ∧ cl.map (·.1) = d.cl ∧ PySem.W.codeIn K cdv d.qual = true ∧ DflV K dV (d.dvs K) ∧ KwdV K kV (d.kws K) := by
  obtain ⟨kp, c2⟩ := ba c
  refine ⟨kp, ?_⟩
  unfold fnE at e
  cases q : K.lookup (d.at_ K) with
  | none =>
    rw [q] at c2
    cases c2
  | some o =>
    obtain ⟨oc, od, dt, osl⟩ := o
    rw [q] at c2 e
    cases dt with
    | func fd =>
      obtain ⟨n1, n2, n3, n4, n5, n6, n7, n8, n9, n10, n11, n12, n13, n14, n15⟩ := fd
      have e2 : (some (n1, n2, n3, n4, n5, n6, n7.map (·.1), n15) : FnE) = some (d.name, d.qual, defArgs d.st, .stmts (defBody d.st), defScope d.st, mainGlobals, d.cl, builtinsNs) := e
      simp only [Option.some.injEq, Prod.mk.injEq] at e2
      obtain ⟨h1, h2, h3, h4, h5, h6, h7, h8⟩ := e2
      have c3 : (PySem.W.codeIn K n13 d.qual && (dflB K n8 (d.dvs K) && kwdB K n9 (d.kws K))) = true := c2
      obtain ⟨k1, k2⟩ := ba c3
      obtain ⟨k3, k4⟩ := ba k2
      exact ⟨oc, od, n8, n9, n10, n11, n12, n13, n14, osl, n7, by rw [h1, h2, h3, h4, h5, h6, h8], h7, k1, dflB_ok k3, kwdB_ok k4⟩
    | _ => cases c2
theorem D2.fd {K : PySem.W.Frag} {d : D2} (e : fnE K (d.at_ K) = d.val) (c : d.ok K = true) (h : d.cl = []) : ∃ fd, FunD K d.name d.qual (defArgs d.st) (defBody d.st) (defScope d.st) (d.dvs K) (d.kws K) (d.at_ K) fd := by
  obtain ⟨kp, oc, od, dV, kV, doc, pm, an, cdv, ct, osl, cl, lk, hcl, hcd, hd, hk⟩ := D2.get e c
  rw [h] at hcl
  obtain rfl : cl = [] := List.map_eq_nil_iff.mp hcl
  exact ⟨_, ⟨oc, od, dV, kV, doc, pm, an, cdv, ct, osl, rfl, lk, hcd, hd, hk⟩, kp⟩
/-! single facts -/
def tupA (K : PySem.W.Frag) (a : Addr) (vs : List V) : Bool := match K.lookup a with
  | some ⟨.type c, _, .seq its _, _⟩ => decide (c = "tuple") && (decide (its.size ≤ sizeLine) && relAll vs its.toList)
  | _ => false
theorem tupA_ok {K : PySem.W.Frag} {a : Addr} {vs : List V} (h : tupA K a vs = true) : TupK K a vs := by
  unfold tupA at h
  cases q : K.lookup a with
  | none =>
    rw [q] at h
    cases h
  | some o =>
    obtain ⟨oc, od, dt, osl⟩ := o
    rw [q] at h
    cases oc with
    | type c =>
      cases dt with
      | seq its n =>
        obtain ⟨h1, h2⟩ := ba (show (decide (c = "tuple") && (decide (its.size ≤ sizeLine) && relAll vs its.toList)) = true from h)
        obtain ⟨h3, h4⟩ := ba h2
        exact ⟨_, its, n, q, congrArg Value.type (of_decide_eq_true h1), rfl, of_decide_eq_true h3, relAll_ok h4⟩
      | _ => cases h
    | _ => cases dt <;> cases h
def setB (K : PySem.W.Frag) (a : Addr) (x : Str) (i : Int) : Bool := match PySem.W.nsIn K a x with
  | some (some (.int j _)) => decide (j = i)
  | _ => false
theorem setB_ok {K : PySem.W.Frag} {a : Addr} {x : Str} {i : Int} (h : setB K a x i = true) : ∃ t, PySem.W.nsIn K a x = some (some (.int i t)) := by
  unfold setB at h
  cases e : PySem.W.nsIn K a x with
  | none =>
    rw [e] at h
    cases h
  | some r =>
    rw [e] at h
    cases r with
    | none => cases h
    | some v =>
      cases v with
      | int j t =>
        have ej : j = i := of_decide_eq_true h
        rw [ej]
        exact ⟨t, rfl⟩
      | _ => cases h
def propB (K : PySem.W.Frag) (C f : Str) : Bool := eqO (PySem.W.findIn K (.ref (ga K C)) f) (some (some (.ref (ma K (ga K C) f)))) && (eqO (PySem.W.specialIn K (.ref (ma K (ga K C) f)) "__get__") (some (some (.builtin "property.__get__"))) && (decide (PySem.W.takesIn K (.ref (ma K (ga K C) f)) = some true) &&
  (match PySem.W.recIn K (ma K (ga K C) f) "property" with
    | some (.ref _ :: _) => true
    | _ => false)))
theorem propB_ok {K : PySem.W.Frag} {C f : Str} (h : propB K C f = true) : PropOf K (ga K C) f (ma K (ga K C) f) (getAd K C f) := by
  obtain ⟨h1, h⟩ := ba h
  obtain ⟨h2, h⟩ := ba h
  obtain ⟨h3, h4⟩ := ba h
  refine ⟨eqO_ok h1, eqO_ok h2, of_decide_eq_true h3, ?_⟩
  unfold getAd
  cases e : PySem.W.recIn K (ma K (ga K C) f) "property" with
  | none =>
    rw [e] at h4
    cases h4
  | some l =>
    rw [e] at h4
    cases l with
    | nil => cases h4
    | cons v r =>
      cases v with
      | ref g => exact ⟨r, rfl⟩
      | _ => cases h4
/-! Kind.__init__ -/
abbrev kiP : Str × Option Str := ("Kind", some "__init__")
def kiKw (x : Str) (K : PySem.W.Frag) : Addr := match K.lookup (fAd K kiP) with
  | some ⟨_, _, .func fd, _⟩ => (match fd.kwdefaults with
    | .ref D => (match PySem.W.nsIn K D x with
      | some (some (.ref b)) => b
      | _ => 0)
    | _ => 0)
  | _ => 0
def kiB (K : PySem.W.Frag) (file : Str) : Bool := match K.lookup (fAd K kiP) with
  | some ⟨_, _, .func fd, _⟩ => (match fd.closure with
    | [(_, cc)] => (match K.lookup cc with
      | some ⟨_, _, .cell (some (.ref D)), _⟩ => decide (D = ga K "Kind")
      | _ => false)
    | _ => false) && (match fd.code with
    | .ref c => (match K.lookup c with
      | some ⟨_, _, .fields vs, _⟩ => (match (vs[2]? : Option Value) with
        | some (.str z _) => decide (z = file)
        | _ => false)
      | _ => false)
    | _ => false)
  | _ => false
theorem kiB_ok {K : PySem.W.Frag} {file : Str} {oc : Value} {od : Option Addr} {fd : FuncData} {osl : Array (Option Value)} {cc : Addr} {x : Str} (h : kiB K file = true) (lk : K.lookup (fAd K kiP) = some ⟨oc, od, .func fd, osl⟩) (hc : fd.closure = [(x, cc)]) :
    (∃ cl cld csl, K.lookup cc = some ⟨cl, cld, .cell (some (.ref (ga K "Kind"))), csl⟩) ∧ ∃ cda ccl cdd vs ccs tf, fd.code = .ref cda ∧ K.lookup cda = some ⟨ccl, cdd, .fields vs, ccs⟩ ∧ vs[2]? = some (.str file tf) := by
  unfold kiB at h
  rw [lk] at h
  obtain ⟨h1, h2⟩ := ba h
  rw [hc] at h1
  constructor
  · cases e : K.lookup cc with
    | none =>
      simp only [e] at h1
      cases h1
    | some o =>
      obtain ⟨cl, cld, dt, csl⟩ := o
      simp only [e] at h1
      cases dt with
      | cell v =>
        cases v with
        | none => cases h1
        | some v =>
          cases v with
          | ref D =>
            have eD : D = ga K "Kind" := of_decide_eq_true h1
            rw [eD]
            exact ⟨cl, cld, csl, rfl⟩
          | _ => cases h1
      | _ => cases h1
  · cases ec : fd.code with
    | ref c =>
      rw [ec] at h2
      cases e : K.lookup c with
      | none =>
        simp only [e] at h2
        cases h2
      | some o =>
        obtain ⟨ccl, cdd, dt, ccs⟩ := o
        simp only [e] at h2
        cases dt with
        | fields vs =>
          cases e3 : vs[2]? with
          | none =>
            simp only [e3] at h2
            cases h2
          | some v =>
            simp only [e3] at h2
            cases v with
            | str z t =>
              have ez : z = file := of_decide_eq_true h2
              rw [← ez]
              exact ⟨c, ccl, cdd, vs, ccs, t, rfl, e, e3⟩
            | _ => cases h2
        | _ => cases h2
    | _ =>
      rw [ec] at h2
      cases h2
def rowFile : Str := "/claim/cut.py"
def fa0 : List He.Fa := [.free "len",
  .free "all",
  .free "any",
  .free "sum",
  .free "min",
  .free "isinstance",
  .free "tuple",
  .free "list",
  .free "str",
  .free "bool",
  .free "int",
  .free "range",
  .free "enumerate",
  .free "super",
  .int "MAX_BITS" 40,
  .int "MOST_SIGNS" 20,
  .int "LONGEST" 40,
  .int "WIDEST" 6,
  .int "DEEPEST" 3,
  .int "GREATEST" 1000000000000000000000000000000,
  .int "MOST_BASES" 4,
  .int "MOST_ENTRIES" 60,
  .int "MOST_START" 1000000,
  .str "LETTERS" "ABCDEFGHIJKLMNOPQRSTUVWXYZabcdefghijklmnopqrstuvwxyz_",
  .str "DIGITS" "0123456789"]
def fa1 : List He.Fa := [.glo "FAMILIES",
  .glo "BOUNDARIES",
  .glo "SIZES",
  .cls "Record",
  .glo "Record",
  .keep "Record",
  .cls "Member",
  .glo "Member",
  .keep "Member",
  .cls "FlagMember",
  .glo "FlagMember",
  .keep "FlagMember",
  .cls "Kind",
  .glo "Kind",
  .keep "Kind",
  .glo "KindRoot",
  .keep "KindRoot",
  .mkr "Record",
  .mkr "FlagMember",
  .mkr "Kind",
  .noat "FlagMember" "own_kind",
  .noat "FlagMember" "own_value",
  .noat "FlagMember" "own_name",
  .noat "FlagMember" "own_aliases",
  .noat "FlagMember" "own_place"]
def fa2 : List He.Fa := [.noat "Kind" "own_name",
  .noat "Kind" "own_family",
  .noat "Kind" "own_bases",
  .noat "Kind" "own_boundary",
  .noat "Kind" "own_start",
  .noat "Kind" "own_line",
  .noat "Kind" "own_record",
  .noat "Record" "own_rows",
  .noat "Record" "own_firsts",
  .noat "Record" "own_attributes",
  .noat "Record" "own_methods",
  .noat "Record" "own_rule",
  .noat "Record" "own_missing",
  .glo "is_integer",
  .glo "is_text",
  .glo "is_name",
  .glo "is_reserved",
  .glo "is_nested",
  .glo "is_value",
  .glo "is_flag_value",
  .glo "need_flag_values",
  .glo "bits_of",
  .glo "split",
  .glo "kept_reading",
  .glo "reading"]
def fa3 : List He.Fa := [.glo "line_behind",
  .glo "need_bases",
  .glo "family_of",
  .glo "values_in",
  .glo "mask_in",
  .glo "need_checks",
  .glo "check_all",
  .glo "has_form",
  .glo "wrong_form",
  .glo "with_member",
  .glo "given_value",
  .glo "fits",
  .glo "carried_out",
  .glo "all_carried_out",
  .glo "first_rows",
  .glo "names_of",
  .glo "place_of",
  .glo "singles_of",
  .glo "is_one_of",
  .glo "need_form",
  .glo "need_options",
  .glo "boundary_of",
  .glo "_law_cell",
  .glo "_law_rows",
  .glo "_law_flag"]
def fa4 : List He.Fa := [.glo "_law_mask",
  .glo "_law_number",
  .glo "_law_two_right",
  .glo "_law_three_right",
  .glo "_law_parts_right",
  .glo "law",
  .glo "value_of_name_members",
  .meth "FlagMember" "__eq__",
  .meth "FlagMember" "joined_with",
  .meth "FlagMember" "is_beside",
  .meth "FlagMember" "need_beside",
  .meth "FlagMember" "__or__",
  .meth "FlagMember" "__and__",
  .meth "FlagMember" "__xor__",
  .meth "FlagMember" "__sub__",
  .meth "FlagMember" "__lt__",
  .meth "FlagMember" "__le__",
  .meth "FlagMember" "__contains__",
  .meth "FlagMember" "__len__",
  .meth "FlagMember" "__bool__",
  .meth "FlagMember" "with_bit",
  .meth "FlagMember" "without",
  .meth "Kind" "member_with",
  .meth "Kind" "has_member",
  .meth "Kind" "has_value"]
def fa5 : List He.Fa := [.meth "Kind" "looked_up",
  .meth "Kind" "__call__",
  .meth "Kind" "__getitem__",
  .meth "FlagMember" "parts"]
def fa : List He.Fa := fa0 ++ fa1 ++ fa2 ++ fa3 ++ fa4 ++ fa5
def ex0 : List (PySem.W.Frag → Bool) := [fun K => tupA K (ga K "FAMILIES") [.str "any", .str "integer", .str "text", .str "flag"],
  fun K => tupA K (ga K "BOUNDARIES") [.str "strict", .str "conform", .str "eject", .str "keep"],
  fun K => setB K (ga K "SIZES") "set" 3,
  fun K => tupA K (dflAt ("Record", some "__init__") 0 K) [],
  fun K => tupA K (dflAt ("Record", some "__init__") 4 K) [],
  fun K => tupA K (dflAt ("Record", some "__init__") 5 K) [],
  fun K => propB K "FlagMember" "rest",
  fun K => propB K "Kind" "mask",
  fun K => propB K "Kind" "all_names",
  fun K => kiB K rowFile,
  fun K => tupA K (kiKw "bases" K) [],
  fun K => tupA K (kiKw "checks" K) [],
  fun K => (PySem.W.clsIn K (C_Kind K)).isSome,
  fun K => decide (PySem.W.mroIn K (C_Kind K) (.ref (C_Kind K)) = some true),
  fun K => eqO (PySem.W.nsIn K cStatics "thirdparty.any") (some none),
  fun K => eqO (PySem.W.ks_superIn K (C_Kind K) (C_Kind K) "__init__") (some (some (.ref (ma K (C_KindRoot K) "__init__")))),
  fun K => PySem.W.fnIn K (ma K (C_KindRoot K) "__init__"),
  fun K => decide (PySem.W.typeIn K (.ref (ma K (C_KindRoot K) "__init__")) = some (.type "function")),
  fun K => PySem.W.selfFirst K (C_FlagMember K),
  fun K => decide (PySem.W.mroIn K (C_FlagMember K) (.type "object") = some true),
  fun K => eqO (PySem.W.findIn K (.ref (C_FlagMember K)) "__gt__") (some (some (.builtin "object.__gt__"))),
  fun K => eqO (PySem.W.findIn K (.ref (C_FlagMember K)) "__ge__") (some (some (.builtin "object.__ge__"))),
  fun K => eqO (PySem.W.findIn K (.ref (C_FlagMember K)) "__ne__") (some (some (.builtin "object.__ne__"))),
  fun K => decide (PySem.W.mroIn K (C_Kind K) (.type "object") = some true),
  fun K => eqO (PySem.W.findIn K (.ref (C_Kind K)) "__eq__") (some (some (.builtin "object.__eq__")))]
def ex1 : List (PySem.W.Frag → Bool) := [fun K => PySem.W.fnIn K (ma K (C_Kind K) "__call__"),
  fun K => PySem.W.fnIn K (ma K (C_Kind K) "__getitem__"),
  fun K => decide (PySem.W.kitOne K (.ref (C_FlagMember K)) (.ref (C_Member K)) = some true),
  fun K => decide (PySem.W.kitOne K (.ref (C_FlagMember K)) (.ref (C_FlagMember K)) = some true),
  fun K => eqO (PySem.W.findIn K (.ref (C_FlagMember K)) "__class__") (some (some (.builtin "object.__class__"))),
  fun K => eqO (PySem.W.specialIn K (.builtin "object.__class__") "__get__") (some (some (.builtin "getset_descriptor.__get__"))),
  fun K => decide (PySem.W.takesIn K (.builtin "object.__class__") = some true),
  fun K => decide (PySem.W.kitOne K (.type "int") (.ref (C_Member K)) = some false)]
def ex : List (PySem.W.Frag → Bool) := ex0 ++ ex1
def ds0 : List D2 := [{ at_ := fun K => ga K "is_integer", name := "is_integer", qual := "is_integer", st := s_is_integer },
  { at_ := fun K => ga K "is_text", name := "is_text", qual := "is_text", st := s_is_text },
  { at_ := fun K => ga K "is_name", name := "is_name", qual := "is_name", st := s_is_name },
  { at_ := fun K => ga K "is_reserved", name := "is_reserved", qual := "is_reserved", st := s_is_reserved },
  { at_ := fun K => ga K "is_nested", name := "is_nested", qual := "is_nested", st := s_is_nested },
  { at_ := fun K => ga K "is_value", name := "is_value", qual := "is_value", st := s_is_value },
  { at_ := fun K => ga K "is_flag_value", name := "is_flag_value", qual := "is_flag_value", st := s_is_flag_value },
  { at_ := fun K => ga K "need_flag_values", name := "need_flag_values", qual := "need_flag_values", st := s_need_flag_values },
  { at_ := fun K => ga K "bits_of", name := "bits_of", qual := "bits_of", st := s_bits_of },
  { at_ := fun K => ga K "split", name := "split", qual := "split", st := s_split },
  { at_ := fun K => ga K "kept_reading", name := "kept_reading", qual := "kept_reading", st := s_kept_reading },
  { at_ := fun K => ga K "reading", name := "reading", qual := "reading", st := s_reading },
  { at_ := fun K => ga K "line_behind", name := "line_behind", qual := "line_behind", st := s_line_behind },
  { at_ := fun K => ga K "need_bases", name := "need_bases", qual := "need_bases", st := s_need_bases },
  { at_ := fun K => ga K "family_of", name := "family_of", qual := "family_of", st := s_family_of },
  { at_ := fun K => ga K "values_in", name := "values_in", qual := "values_in", st := s_values_in },
  { at_ := fun K => ga K "mask_in", name := "mask_in", qual := "mask_in", st := s_mask_in },
  { at_ := fun K => ga K "need_checks", name := "need_checks", qual := "need_checks", st := s_need_checks },
  { at_ := fun K => ga K "check_all", name := "check_all", qual := "check_all", st := s_check_all },
  { at_ := fun K => ga K "has_form", name := "has_form", qual := "has_form", st := s_has_form },
  { at_ := fun K => ga K "wrong_form", name := "wrong_form", qual := "wrong_form", st := s_wrong_form },
  { at_ := fun K => ga K "with_member", name := "with_member", qual := "with_member", st := s_with_member },
  { at_ := fun K => ga K "given_value", name := "given_value", qual := "given_value", st := s_given_value },
  { at_ := fun K => ga K "fits", name := "fits", qual := "fits", st := s_fits },
  { at_ := fun K => ga K "carried_out", name := "carried_out", qual := "carried_out", st := s_carried_out }]
def ds1 : List D2 := [{ at_ := fun K => ga K "all_carried_out", name := "all_carried_out", qual := "all_carried_out", st := s_all_carried_out },
  { at_ := fun K => ga K "first_rows", name := "first_rows", qual := "first_rows", st := s_first_rows },
  { at_ := fun K => ga K "names_of", name := "names_of", qual := "names_of", st := s_names_of },
  { at_ := fun K => ga K "place_of", name := "place_of", qual := "place_of", st := s_place_of },
  { at_ := fun K => ga K "singles_of", name := "singles_of", qual := "singles_of", st := s_singles_of },
  { at_ := fun K => ga K "is_one_of", name := "is_one_of", qual := "is_one_of", st := s_is_one_of },
  { at_ := fun K => ga K "need_form", name := "need_form", qual := "need_form", st := s_need_form },
  { at_ := fun K => ga K "need_options", name := "need_options", qual := "need_options", st := s_need_options },
  { at_ := fun K => ga K "boundary_of", name := "boundary_of", qual := "boundary_of", st := s_boundary_of },
  { at_ := fun K => ga K "_law_cell", name := "_law_cell", qual := "_law_cell", st := s__law_cell },
  { at_ := fun K => ga K "_law_rows", name := "_law_rows", qual := "_law_rows", st := s__law_rows },
  { at_ := fun K => ga K "_law_flag", name := "_law_flag", qual := "_law_flag", st := s__law_flag },
  { at_ := fun K => ga K "_law_mask", name := "_law_mask", qual := "_law_mask", st := s__law_mask },
  { at_ := fun K => ga K "_law_number", name := "_law_number", qual := "_law_number", st := s__law_number },
  { at_ := fun K => ga K "_law_two_right", name := "_law_two_right", qual := "_law_two_right", st := s__law_two_right },
  { at_ := fun K => ga K "_law_three_right", name := "_law_three_right", qual := "_law_three_right", st := s__law_three_right },
  { at_ := fun K => ga K "_law_parts_right", name := "_law_parts_right", qual := "_law_parts_right", st := s__law_parts_right },
  { at_ := fun K => ga K "law", name := "law", qual := "law", st := s_law },
  { at_ := fun K => ga K "value_of_name_members", name := "value_of_name", qual := "value_of_name", st := s_value_of_name_members },
  { at_ := fun K => ma K (ga K "Record") "__init__", name := "__init__", qual := "Record.__init__", st := s_Record_init, dvs := fun K => [.ref (dflAt ("Record", some "__init__") 0 K), .non, .non, .non, .ref (dflAt ("Record", some "__init__") 4 K), .ref (dflAt ("Record", some "__init__") 5 K)] },
  { at_ := fun K => ma K (ga K "FlagMember") "__init__", name := "__init__", qual := "Member.__init__", st := s_FlagMember_init },
  { at_ := fun K => ma K (ga K "FlagMember") "__eq__", name := "__eq__", qual := "Member.__eq__", st := s_FlagMember_eq },
  { at_ := fun K => ma K (ga K "FlagMember") "joined_with", name := "joined_with", qual := "FlagMember.joined_with", st := s_FlagMember_joined_with },
  { at_ := fun K => ma K (ga K "FlagMember") "is_beside", name := "is_beside", qual := "FlagMember.is_beside", st := s_FlagMember_is_beside },
  { at_ := fun K => ma K (ga K "FlagMember") "need_beside", name := "need_beside", qual := "FlagMember.need_beside", st := s_FlagMember_need_beside }]
def ds2 : List D2 := [{ at_ := fun K => ma K (ga K "FlagMember") "__or__", name := "__or__", qual := "FlagMember.__or__", st := s_FlagMember_or },
  { at_ := fun K => ma K (ga K "FlagMember") "__and__", name := "__and__", qual := "FlagMember.__and__", st := s_FlagMember_and },
  { at_ := fun K => ma K (ga K "FlagMember") "__xor__", name := "__xor__", qual := "FlagMember.__xor__", st := s_FlagMember_xor },
  { at_ := fun K => ma K (ga K "FlagMember") "__sub__", name := "__sub__", qual := "FlagMember.__sub__", st := s_FlagMember_sub },
  { at_ := fun K => ma K (ga K "FlagMember") "__lt__", name := "__lt__", qual := "FlagMember.__lt__", st := s_FlagMember_lt },
  { at_ := fun K => ma K (ga K "FlagMember") "__le__", name := "__le__", qual := "FlagMember.__le__", st := s_FlagMember_le },
  { at_ := fun K => ma K (ga K "FlagMember") "__contains__", name := "__contains__", qual := "FlagMember.__contains__", st := s_FlagMember_contains },
  { at_ := fun K => ma K (ga K "FlagMember") "__len__", name := "__len__", qual := "FlagMember.__len__", st := s_FlagMember_len },
  { at_ := fun K => ma K (ga K "FlagMember") "__bool__", name := "__bool__", qual := "FlagMember.__bool__", st := s_FlagMember_bool },
  { at_ := fun K => ma K (ga K "FlagMember") "with_bit", name := "with_bit", qual := "FlagMember.with_bit", st := s_FlagMember_with_bit },
  { at_ := fun K => ma K (ga K "FlagMember") "without", name := "without", qual := "FlagMember.without", st := s_FlagMember_without },
  { at_ := fun K => ma K (ga K "KindRoot") "__init__", name := "__init__", qual := "KindRoot.__init__", st := s_KindRoot_init },
  { at_ := fun K => ma K (ga K "Kind") "member_with", name := "member_with", qual := "Kind.member_with", st := s_Kind_member_with },
  { at_ := fun K => ma K (ga K "Kind") "has_member", name := "has_member", qual := "Kind.has_member", st := s_Kind_has_member },
  { at_ := fun K => ma K (ga K "Kind") "has_value", name := "has_value", qual := "Kind.has_value", st := s_Kind_has_value },
  { at_ := fun K => ma K (ga K "Kind") "looked_up", name := "looked_up", qual := "Kind.looked_up", st := s_Kind_looked_up },
  { at_ := fun K => ma K (ga K "Kind") "__call__", name := "__call__", qual := "Kind.__call__", st := s_Kind_call },
  { at_ := fun K => ma K (ga K "Kind") "__getitem__", name := "__getitem__", qual := "Kind.__getitem__", st := s_Kind_getitem },
  { at_ := fun K => getAd K "FlagMember" "rest", name := "rest", qual := "FlagMember.rest", st := s_FlagMember_rest },
  { at_ := fun K => getAd K "Kind" "mask", name := "mask", qual := "Kind.mask", st := s_Kind_mask },
  { at_ := fun K => getAd K "Kind" "all_names", name := "all_names", qual := "Kind.all_names", st := s_Kind_all_names },
  { at_ := fun K => ma K (ga K "Kind") "__init__", name := "__init__", qual := "Kind.__init__", st := s_Kind_init, dvs := fun K => [.ref (dflAt kiP 0 K)], kws := fun K => [("bases", .ref (kiKw "bases" K)), ("family", .non), ("boundary", .non), ("start", .non), ("checks", .ref (kiKw "checks" K))], cl := ["__class__"] },
  { at_ := fun K => ma K (ga K "FlagMember") "parts", name := "parts", qual := "FlagMember.parts", st := s_FlagMember_parts }]
def ds : List D2 := ds0 ++ ds1 ++ ds2
abbrev AlE : Type := (Bool × List FnE) × Option (List (Option (Str × Int)))
def obsE (K : PySem.W.Frag) : AlE := ((fa.all (fun f => f.ok K) && (ex.all (fun f => f K) && ds.all fun d => d.ok K), ds.map fun d => fnE K (d.at_ K)), dicW K (ga K "SIZES"))
def valE (w : World) : AlE := ((true, ds.map D2.val), some (keysIn w.params ["set", "auto", "alias", "mix", "attribute", "method", "rule", "missing"]))
def SaysE (w : World) (K : PySem.W.Frag) : Prop := obsE K = valE w
def obsEG (g : Addr → Option Obj) : AlE := obsE (frG g (addrsE g))
def hookE : PySem.W.Hook where
  α := AlE
  obs := fun s => obsEG s.heap.get?
  val := fun w => valE w
  says := fun w h => ∃ K : PySem.W.Frag, K.In h ∧ SaysE w K
  of := fun _ _ e => ⟨_, frG_in, e⟩
  keeps := fun _ _ _ ⟨K, hK, c⟩ k => ⟨K, PySem.W.Frag.In.keeps hK k, c⟩
theorem obsEG_eq {g : Addr → Option Obj} {s : Shared} (h : ∀ a, g a = s.heap.get? a) : obsEG g = hookE.obs s := by
  have e : g = s.heap.get? := funext h
  rw [e] <;> rfl
section
variable {w : World} {K : PySem.W.Frag}
theorem SaysE.all (c : SaysE w K) : (fa.all (fun f => f.ok K) && (ex.all (fun f => f K) && ds.all fun d => d.ok K)) = true := congrArg (fun z : AlE => z.1.1) c
theorem SaysE.fact (c : SaysE w K) (i : Nat) {f : He.Fa} (h : fa[i]? = some f) : f.ok K = true := List.all_eq_true.mp (ba c.all).1 f (List.mem_of_getElem? h)
theorem SaysE.more (c : SaysE w K) (i : Nat) {f : PySem.W.Frag → Bool} (h : ex[i]? = some f) : f K = true := List.all_eq_true.mp (ba (ba c.all).2).1 f (List.mem_of_getElem? h)
theorem SaysE.okd (c : SaysE w K) (i : Nat) {d : D2} (h : ds[i]? = some d) : d.ok K = true := List.all_eq_true.mp (ba (ba c.all).2).2 d (List.mem_of_getElem? h)
theorem SaysE.val (c : SaysE w K) (i : Nat) {d : D2} (h : ds[i]? = some d) : fnE K (d.at_ K) = d.val := by
  have e : (ds.map fun d => fnE K (d.at_ K)) = ds.map D2.val := congrArg (fun z : AlE => z.1.2) c
  have e2 : (ds.map fun d => fnE K (d.at_ K))[i]? = (ds.map D2.val)[i]? := by rw [e]
  rw [List.getElem?_map, List.getElem?_map, h] at e2
  exact Option.some.inj e2
theorem SaysE.fd (c : SaysE w K) (i : Nat) {d : D2} (h : ds[i]? = some d) (hc : d.cl = []) : ∃ fd, FunD K d.name d.qual (defArgs d.st) (defBody d.st) (defScope d.st) (d.dvs K) (d.kws K) (d.at_ K) fd := D2.fd (c.val i h) (c.okd i h) hc
theorem SaysE.sizes (c : SaysE w K) : ∃ es n, KDict K w (ga K "SIZES") es n := dicW_ok (congrArg (fun z : AlE => z.2) c)
end
section
variable {P : Program} {w : World} {K : PySem.W.Frag} {mg : Str → Option Value} {h : Heap}
theorem tx_of (X : K.In h) (G : h.Ns mainGlobals mg) (c : SaysE w K) (hfile : P.main.file = rowFile) (htop : (P.main.scope.names.lookup ("super" : Str)).isSome = false) : Tx P w K mg where
  b_len := free_ok X G (c.fact 0 rfl)
  b_all := free_ok X G (c.fact 1 rfl)
  b_any := free_ok X G (c.fact 2 rfl)
  b_sum := free_ok X G (c.fact 3 rfl)
  b_min := free_ok X G (c.fact 4 rfl)
  b_isinstance := free_ok X G (c.fact 5 rfl)
  b_tuple := free_ok X G (c.fact 6 rfl)
  b_list := free_ok X G (c.fact 7 rfl)
  b_str := free_ok X G (c.fact 8 rfl)
  b_bool := free_ok X G (c.fact 9 rfl)
  b_int := free_ok X G (c.fact 10 rfl)
  b_range := free_ok X G (c.fact 11 rfl)
  b_enumerate := free_ok X G (c.fact 12 rfl)
  b_super := free_ok X G (c.fact 13 rfl)
  i_MAX_BITS := int_ok X G (c.fact 14 rfl)
  i_MOST_SIGNS := int_ok X G (c.fact 15 rfl)
  i_LONGEST := int_ok X G (c.fact 16 rfl)
  i_WIDEST := int_ok X G (c.fact 17 rfl)
  i_DEEPEST := int_ok X G (c.fact 18 rfl)
  i_GREATEST := int_ok X G (c.fact 19 rfl)
  i_MOST_BASES := int_ok X G (c.fact 20 rfl)
  i_MOST_ENTRIES := int_ok X G (c.fact 21 rfl)
  i_MOST_START := int_ok X G (c.fact 22 rfl)
  s_LETTERS := str_ok X G (c.fact 23 rfl)
  s_DIGITS := str_ok X G (c.fact 24 rfl)
  t_FAMILIES := glo_ok X G (c.fact 25 rfl)
  u_FAMILIES := tupA_ok (c.more 0 rfl)
  t_BOUNDARIES := glo_ok X G (c.fact 26 rfl)
  u_BOUNDARIES := tupA_ok (c.more 1 rfl)
  m_SIZES := glo_ok X G (c.fact 27 rfl)
  sizes := c.sizes
  sizeSet := setB_ok (c.more 2 rfl)
  c_Record := cls_ok (c.fact 28 rfl)
  m_Record := glo_ok X G (c.fact 29 rfl)
  k_Record := keep_ok (c.fact 30 rfl)
  c_Member := cls_ok (c.fact 31 rfl)
  m_Member := glo_ok X G (c.fact 32 rfl)
  k_Member := keep_ok (c.fact 33 rfl)
  c_FlagMember := cls_ok (c.fact 34 rfl)
  m_FlagMember := glo_ok X G (c.fact 35 rfl)
  k_FlagMember := keep_ok (c.fact 36 rfl)
  c_Kind := cls_ok (c.fact 37 rfl)
  m_Kind := glo_ok X G (c.fact 38 rfl)
  k_Kind := keep_ok (c.fact 39 rfl)
  m_KindRoot := glo_ok X G (c.fact 40 rfl)
  k_KindRoot := keep_ok (c.fact 41 rfl)
  mk_Record := mkr_ok (c.fact 42 rfl)
  mk_FlagMember := mkr_ok (c.fact 43 rfl)
  mk_Kind := mkr_ok (c.fact 44 rfl)
  na_FlagMember_own_kind := noat_ok (c.fact 45 rfl)
  na_FlagMember_own_value := noat_ok (c.fact 46 rfl)
  na_FlagMember_own_name := noat_ok (c.fact 47 rfl)
  na_FlagMember_own_aliases := noat_ok (c.fact 48 rfl)
  na_FlagMember_own_place := noat_ok (c.fact 49 rfl)
  na_Kind_own_name := noat_ok (c.fact 50 rfl)
  na_Kind_own_family := noat_ok (c.fact 51 rfl)
  na_Kind_own_bases := noat_ok (c.fact 52 rfl)
  na_Kind_own_boundary := noat_ok (c.fact 53 rfl)
  na_Kind_own_start := noat_ok (c.fact 54 rfl)
  na_Kind_own_line := noat_ok (c.fact 55 rfl)
  na_Kind_own_record := noat_ok (c.fact 56 rfl)
  na_Record_own_rows := noat_ok (c.fact 57 rfl)
  na_Record_own_firsts := noat_ok (c.fact 58 rfl)
  na_Record_own_attributes := noat_ok (c.fact 59 rfl)
  na_Record_own_methods := noat_ok (c.fact 60 rfl)
  na_Record_own_rule := noat_ok (c.fact 61 rfl)
  na_Record_own_missing := noat_ok (c.fact 62 rfl)
  m_is_integer := glo_ok X G (c.fact 63 rfl)
  f_is_integer := c.fd 0 rfl rfl
  m_is_text := glo_ok X G (c.fact 64 rfl)
  f_is_text := c.fd 1 rfl rfl
  m_is_name := glo_ok X G (c.fact 65 rfl)
  f_is_name := c.fd 2 rfl rfl
  m_is_reserved := glo_ok X G (c.fact 66 rfl)
  f_is_reserved := c.fd 3 rfl rfl
  m_is_nested := glo_ok X G (c.fact 67 rfl)
  f_is_nested := c.fd 4 rfl rfl
  m_is_value := glo_ok X G (c.fact 68 rfl)
  f_is_value := c.fd 5 rfl rfl
  m_is_flag_value := glo_ok X G (c.fact 69 rfl)
  f_is_flag_value := c.fd 6 rfl rfl
  m_need_flag_values := glo_ok X G (c.fact 70 rfl)
  f_need_flag_values := c.fd 7 rfl rfl
  m_bits_of := glo_ok X G (c.fact 71 rfl)
  f_bits_of := c.fd 8 rfl rfl
  m_split := glo_ok X G (c.fact 72 rfl)
  f_split := c.fd 9 rfl rfl
  m_kept_reading := glo_ok X G (c.fact 73 rfl)
  f_kept_reading := c.fd 10 rfl rfl
  m_reading := glo_ok X G (c.fact 74 rfl)
  f_reading := c.fd 11 rfl rfl
  m_line_behind := glo_ok X G (c.fact 75 rfl)
  f_line_behind := c.fd 12 rfl rfl
  m_need_bases := glo_ok X G (c.fact 76 rfl)
  f_need_bases := c.fd 13 rfl rfl
  m_family_of := glo_ok X G (c.fact 77 rfl)
  f_family_of := c.fd 14 rfl rfl
  m_values_in := glo_ok X G (c.fact 78 rfl)
  f_values_in := c.fd 15 rfl rfl
  m_mask_in := glo_ok X G (c.fact 79 rfl)
  f_mask_in := c.fd 16 rfl rfl
  m_need_checks := glo_ok X G (c.fact 80 rfl)
  f_need_checks := c.fd 17 rfl rfl
  m_check_all := glo_ok X G (c.fact 81 rfl)
  f_check_all := c.fd 18 rfl rfl
  m_has_form := glo_ok X G (c.fact 82 rfl)
  f_has_form := c.fd 19 rfl rfl
  m_wrong_form := glo_ok X G (c.fact 83 rfl)
  f_wrong_form := c.fd 20 rfl rfl
  m_with_member := glo_ok X G (c.fact 84 rfl)
  f_with_member := c.fd 21 rfl rfl
  m_given_value := glo_ok X G (c.fact 85 rfl)
  f_given_value := c.fd 22 rfl rfl
  m_fits := glo_ok X G (c.fact 86 rfl)
  f_fits := c.fd 23 rfl rfl
  m_carried_out := glo_ok X G (c.fact 87 rfl)
  f_carried_out := c.fd 24 rfl rfl
  m_all_carried_out := glo_ok X G (c.fact 88 rfl)
  f_all_carried_out := c.fd 25 rfl rfl
  m_first_rows := glo_ok X G (c.fact 89 rfl)
  f_first_rows := c.fd 26 rfl rfl
  m_names_of := glo_ok X G (c.fact 90 rfl)
  f_names_of := c.fd 27 rfl rfl
  m_place_of := glo_ok X G (c.fact 91 rfl)
  f_place_of := c.fd 28 rfl rfl
  m_singles_of := glo_ok X G (c.fact 92 rfl)
  f_singles_of := c.fd 29 rfl rfl
  m_is_one_of := glo_ok X G (c.fact 93 rfl)
  f_is_one_of := c.fd 30 rfl rfl
  m_need_form := glo_ok X G (c.fact 94 rfl)
  f_need_form := c.fd 31 rfl rfl
  m_need_options := glo_ok X G (c.fact 95 rfl)
  f_need_options := c.fd 32 rfl rfl
  m_boundary_of := glo_ok X G (c.fact 96 rfl)
  f_boundary_of := c.fd 33 rfl rfl
  m__law_cell := glo_ok X G (c.fact 97 rfl)
  f__law_cell := c.fd 34 rfl rfl
  m__law_rows := glo_ok X G (c.fact 98 rfl)
  f__law_rows := c.fd 35 rfl rfl
  m__law_flag := glo_ok X G (c.fact 99 rfl)
  f__law_flag := c.fd 36 rfl rfl
  m__law_mask := glo_ok X G (c.fact 100 rfl)
  f__law_mask := c.fd 37 rfl rfl
  m__law_number := glo_ok X G (c.fact 101 rfl)
  f__law_number := c.fd 38 rfl rfl
  m__law_two_right := glo_ok X G (c.fact 102 rfl)
  f__law_two_right := c.fd 39 rfl rfl
  m__law_three_right := glo_ok X G (c.fact 103 rfl)
  f__law_three_right := c.fd 40 rfl rfl
  m__law_parts_right := glo_ok X G (c.fact 104 rfl)
  f__law_parts_right := c.fd 41 rfl rfl
  m_law := glo_ok X G (c.fact 105 rfl)
  f_law := c.fd 42 rfl rfl
  m_value_of_name_members := glo_ok X G (c.fact 106 rfl)
  f_value_of_name_members := c.fd 43 rfl rfl
  f_Record_init := by
    obtain ⟨fd, F⟩ := c.fd 44 rfl rfl
    exact ⟨[.ref (dflAt ("Record", some "__init__") 0 K), .non, .non, .non, .ref (dflAt ("Record", some "__init__") 4 K), .ref (dflAt ("Record", some "__init__") 5 K)], fd, ⟨_, _, _, rfl, tupA_ok (c.more 3 rfl), tupA_ok (c.more 4 rfl), tupA_ok (c.more 5 rfl)⟩, F⟩
  f_FlagMember_init := c.fd 45 rfl rfl
  mt_FlagMember_eq := meth_ok (c.fact 107 rfl)
  f_FlagMember_eq := c.fd 46 rfl rfl
  mt_FlagMember_joined_with := meth_ok (c.fact 108 rfl)
  f_FlagMember_joined_with := c.fd 47 rfl rfl
  mt_FlagMember_is_beside := meth_ok (c.fact 109 rfl)
  f_FlagMember_is_beside := c.fd 48 rfl rfl
  mt_FlagMember_need_beside := meth_ok (c.fact 110 rfl)
  f_FlagMember_need_beside := c.fd 49 rfl rfl
  mt_FlagMember_or := meth_ok (c.fact 111 rfl)
  f_FlagMember_or := c.fd 50 rfl rfl
  mt_FlagMember_and := meth_ok (c.fact 112 rfl)
  f_FlagMember_and := c.fd 51 rfl rfl
  mt_FlagMember_xor := meth_ok (c.fact 113 rfl)
  f_FlagMember_xor := c.fd 52 rfl rfl
  mt_FlagMember_sub := meth_ok (c.fact 114 rfl)
  f_FlagMember_sub := c.fd 53 rfl rfl
  mt_FlagMember_lt := meth_ok (c.fact 115 rfl)
  f_FlagMember_lt := c.fd 54 rfl rfl
  mt_FlagMember_le := meth_ok (c.fact 116 rfl)
  f_FlagMember_le := c.fd 55 rfl rfl
  mt_FlagMember_contains := meth_ok (c.fact 117 rfl)
  f_FlagMember_contains := c.fd 56 rfl rfl
  mt_FlagMember_len := meth_ok (c.fact 118 rfl)
  f_FlagMember_len := c.fd 57 rfl rfl
  mt_FlagMember_bool := meth_ok (c.fact 119 rfl)
  f_FlagMember_bool := c.fd 58 rfl rfl
  mt_FlagMember_with_bit := meth_ok (c.fact 120 rfl)
  f_FlagMember_with_bit := c.fd 59 rfl rfl
  mt_FlagMember_without := meth_ok (c.fact 121 rfl)
  f_FlagMember_without := c.fd 60 rfl rfl
  f_KindRoot_init := c.fd 61 rfl rfl
  mt_Kind_member_with := meth_ok (c.fact 122 rfl)
  f_Kind_member_with := c.fd 62 rfl rfl
  mt_Kind_has_member := meth_ok (c.fact 123 rfl)
  f_Kind_has_member := c.fd 63 rfl rfl
  mt_Kind_has_value := meth_ok (c.fact 124 rfl)
  f_Kind_has_value := c.fd 64 rfl rfl
  mt_Kind_looked_up := meth_ok (c.fact 125 rfl)
  f_Kind_looked_up := c.fd 65 rfl rfl
  mt_Kind_call := meth_ok (c.fact 126 rfl)
  f_Kind_call := c.fd 66 rfl rfl
  mt_Kind_getitem := meth_ok (c.fact 127 rfl)
  f_Kind_getitem := c.fd 67 rfl rfl
  pr_FlagMember_rest := propB_ok (c.more 6 rfl)
  f_FlagMember_rest := c.fd 68 rfl rfl
  pr_Kind_mask := propB_ok (c.more 7 rfl)
  f_Kind_mask := c.fd 69 rfl rfl
  pr_Kind_all_names := propB_ok (c.more 8 rfl)
  f_Kind_all_names := c.fd 70 rfl rfl
  f_Kind_init := by
    obtain ⟨kp, oc, od, dV, kV, doc, pm, an, cdv, ct, osl, cl, lk, hcl, hcd, hd, hk⟩ := D2.get (c.val 71 rfl) (c.okd 71 rfl)
    obtain ⟨cc, rfl⟩ : ∃ cc, cl = [(("__class__" : Str), cc)] := by
      have e : cl.map (·.1) = [("__class__" : Str)] := hcl
      match cl, e with
      | [(x, cc)], e =>
        have e1 : x = "__class__" := (List.cons.inj e).1
        exact ⟨cc, by rw [e1]⟩
    obtain ⟨h1, cda, ccl, cdd, vs, ccs, tf, e1, e2, e3⟩ := kiB_ok (c.more 9 rfl) lk rfl
    have e1 : cdv = .ref cda := e1
    subst e1
    exact ⟨cc, _, _, _, _, tupA_ok (c.more 10 rfl), tupA_ok (c.more 11 rfl), ⟨oc, od, dV, kV, doc, pm, an, cda, ct, osl, rfl, lk, hcd, hd, hk, ccl, cdd, vs, ccs, tf, e2, by rw [hfile]; exact e3⟩, h1, kp⟩
  sup_cls := by
    have h : (PySem.W.clsIn K (C_Kind K)).isSome = true := c.more 12 rfl
    exact Option.isSome_iff_exists.mp h
  sup_sub := of_decide_eq_true (c.more 13 rfl)
  sup_opq := eqO_ok (c.more 14 rfl)
  sup_find := eqO_ok (c.more 15 rfl)
  sup_fi := c.more 16 rfl
  sup_ty := of_decide_eq_true (c.more 17 rfl)
  sup_top := htop
  fm_self := c.more 18 rfl
  fm_obj := of_decide_eq_true (c.more 19 rfl)
  fm_gt := eqO_ok (c.more 20 rfl)
  fm_ge := eqO_ok (c.more 21 rfl)
  fm_ne := eqO_ok (c.more 22 rfl)
  k_obj := of_decide_eq_true (c.more 23 rfl)
  k_eq := eqO_ok (c.more 24 rfl)
  k_call := ⟨(meth_ok (c.fact 126 rfl)).at_, (meth_ok (c.fact 126 rfl)).fn, c.more 25 rfl⟩
  k_getfn := c.more 26 rfl
  kit_fm_m := of_decide_eq_true (c.more 27 rfl)
  kit_fm_f := of_decide_eq_true (c.more 28 rfl)
  fm_class := eqO_ok (c.more 29 rfl)
  oc_get := eqO_ok (c.more 30 rfl)
  oc_tak := of_decide_eq_true (c.more 31 rfl)
  kit_int_m := of_decide_eq_true (c.more 32 rfl)
theorem tp_of (c : SaysE w K) : Tp K := ⟨c.fd 72 rfl rfl, meth_ok (c.fact 128 rfl)⟩
end
end EC
end
section
set_option Elab.async false
set_option linter.all false
set_option maxRecDepth 100000
set_option maxHeartbeats 0
noncomputable section
namespace EcHead
open PySem PySem.W PySem.Calls PyProof.Rows HandSHeadRun
def obH (s : SharedT) : EC.AlE := EC.obsEG (HandSHeadRun.getT s)
theorem obH_eq (s : SharedT) : obH s = EC.hookE.obs s.abs := EC.obsEG_eq (HandSHeadRun.getT_eq s)
theorem run3_f (w : World) : RunEq2 R qv EC.hookE obH 20000 names env0 78 11 798 1226 (some (.ref 6)) tree1 posB pos0 (w.withFollow "special-get-raises" false) := by
  intro os
  kernel_rfl
theorem run3_t (w : World) : RunEq2 R qv EC.hookE obH 20000 names env0 78 11 798 1226 (some (.ref 6)) tree1 posB pos0 (w.withFollow "special-get-raises" true) := by
  intro os
  kernel_rfl
end EcHead
end
end
section
set_option Elab.async false
set_option linter.all false
set_option maxRecDepth 100000
set_option maxHeartbeats 2000000
/-! B1: what evaluates to what, further; promises by Ex. -/
namespace EC
open PySem PySem.Spec PyProof.Rows L2 Evl
section
variable {X : Cx}
def tNo : TE := fun _ _ _ => False
theorem pe_no {e : Expr} : PE X e tNo := ⟨fun _ _ _ _ _ _ h => h.elim⟩
def tNoS : TS := fun _ _ _ => False
theorem ps_no {st : Stmt} : PS X st tNoS := ⟨fun _ _ _ _ _ _ h => h.elim⟩
theorem pss_no {b : List Stmt} : PSs X b tNoS := ⟨fun _ _ _ _ _ _ h => h.elim⟩
theorem pe_gI {x : Str} {i : Int} {pos : Pos} (hg : Gl X x) (h : ∃ t, X.mg x = some (.int i t)) (hd : (x == ("__debug__" : Str)) = false := by decide) : PE X (.Name x pos) (tC (.int i)) := by
  obtain ⟨t, h⟩ := h
  exact pe_glob hg h ⟨t, rfl⟩ hd
theorem pe_gS {x z : Str} {pos : Pos} (hg : Gl X x) (h : ∃ t, X.mg x = some (.str z t)) (hd : (x == ("__debug__" : Str)) = false := by decide) : PE X (.Name x pos) (tC (.str z)) := by
  obtain ⟨t, h⟩ := h
  exact pe_glob hg h ⟨t, rfl⟩ hd
theorem pe_gR {x : Str} {a : Addr} {pos : Pos} (hg : Gl X x) (h : X.mg x = some (.ref a)) (hd : (x == ("__debug__" : Str)) = false := by decide) : PE X (.Name x pos) (tC (.ref a)) := pe_glob hg h rfl hd
end

/-! ### built-ins by their names -/
theorem bo_isinstance : bootBuiltins ("isinstance" : Str) = some (.builtin "isinstance") := by decide +kernel
theorem bo_all : bootBuiltins ("all" : Str) = some (.builtin "all") := by decide +kernel
theorem bo_any : bootBuiltins ("any" : Str) = some (.builtin "any") := by decide +kernel
theorem bo_sum : bootBuiltins ("sum" : Str) = some (.builtin "sum") := by decide +kernel
theorem bo_min : bootBuiltins ("min" : Str) = some (.builtin "min") := by decide +kernel
theorem bo_tuple : bootBuiltins ("tuple" : Str) = some (.type "tuple") := by decide +kernel
theorem bo_list : bootBuiltins ("list" : Str) = some (.type "list") := by decide +kernel
theorem bo_str : bootBuiltins ("str" : Str) = some (.type "str") := by decide +kernel
theorem bo_bool : bootBuiltins ("bool" : Str) = some (.type "bool") := by decide +kernel
theorem bo_int : bootBuiltins ("int" : Str) = some (.type "int") := by decide +kernel
section
variable {X : Cx}
theorem pe_ty_tuple {pos : Pos} (hg : Gl X "tuple") (h : X.mg "tuple" = none) : PE X (.Name "tuple" pos) (tC (.ty "tuple")) := pe_bltn hg h bo_tuple rfl
theorem pe_ty_str {pos : Pos} (hg : Gl X "str") (h : X.mg "str" = none) : PE X (.Name "str" pos) (tC (.ty "str")) := pe_bltn hg h bo_str rfl
theorem pe_ty_bool {pos : Pos} (hg : Gl X "bool") (h : X.mg "bool" = none) : PE X (.Name "bool" pos) (tC (.ty "bool")) := pe_bltn hg h bo_bool rfl
theorem pe_ty_int {pos : Pos} (hg : Gl X "int") (h : X.mg "int" = none) : PE X (.Name "int" pos) (tC (.ty "int")) := pe_bltn hg h bo_int rfl
end
/-! ### the same rules, K by its name (for comprehensions) -/
section
variable {X : Cx} {K : PySem.W.Frag}
theorem pe_fldK {e : Expr} {f : Str} {pos : Pos} {ta : TE} (he : PE X e ta) (hb : attributeBase e f X.env (eval e X.env) = eval e X.env) (hK : X.K = K := by rfl) : PE X (.Attribute e f pos) (tFld K ta f) := by
  subst hK
  exact pe_fld he hb
theorem opK_in (hK : X.K = K := by rfl) : OpR X (compareOp .In) (rIn K false) := by
  subst hK
  exact op_in_seq
theorem opK_ni (hK : X.K = K := by rfl) : OpR X (compareOp .NotIn) (rIn K true) := by
  subst hK
  exact op_notIn_seq
theorem opK_eqD (hu : X.A.units + 64 < cLine) (hK : X.K = K := by rfl) : OpR X (compareOp .Eq) (rEqD K) := by
  subst hK
  exact op_eqD hu
theorem opK_neD (hu : X.A.units + 64 < cLine) (hK : X.K = K := by rfl) : OpR X (compareOp .NotEq) (rNeD K) := by
  subst hK
  exact op_neD hu
theorem opK_catA (hK : X.K = K := by rfl) : OpR X (binaryOp .Add) (rCatA K) := by
  subst hK
  exact op_catA
theorem ixK_tup (hK : X.K = K := by rfl) : IxR X (rIxT K) := by
  subst hK
  exact ix_tup
theorem ixK_list (hK : X.K = K := by rfl) : IxR X (rIxL K) := by
  subst hK
  exact ix_list
theorem slK_tupA (hK : X.K = K := by rfl) : SlR X (rSlA K) := by
  subst hK
  exact sl_tupA
theorem slK_list (hK : X.K = K := by rfl) : SlR X (rSlL K) := by
  subst hK
  exact sl_list
theorem crK_all (hc : X.calm = true) (hK : X.K = K := by rfl) : CallR X (.builtin "all") (rAll K) := by
  subst hK
  exact cr_all hc
theorem crK_any (hc : X.calm = true) (hK : X.K = K := by rfl) : CallR X (.builtin "any") (rAny K) := by
  subst hK
  exact cr_any hc
theorem crK_sum (hc : X.calm = true) (hK : X.K = K := by rfl) : CallR X (.builtin "sum") (rSum K) := by
  subst hK
  exact cr_sum hc
def rTupO (K : PySem.W.Frag) : List V → Hp → VK → Prop := fun xs H Q => ∃ p ys, xs = [.ref p] ∧ ((SqL K H p ys ∧ ∀ l, H l = none → Q (.ref l) (upd H l (.tup ys))) ∨ (SqT K H p ys ∧ Q (.ref p) H))
theorem callK_tuple (hK : X.K = K := by rfl) : CallR X (.type "tuple") (rTupO K) := by
  subst hK
  exact call_tuple_of
theorem callK_list (hK : X.K = K := by rfl) : CallR X (.type "list") (rListS K) := by
  subst hK
  exact call_list_of
theorem callK_len (hK : X.K = K := by rfl) : CallR X (.builtin "len") (rLenS K) := by
  subst hK
  exact call_len_seq
theorem callK_isi (hK : X.K = K := by rfl) : CallR X (.builtin "isinstance") (rIsi K) := by
  subst hK
  exact call_isi
theorem pgK_tup {es : List Expr} {k : Nat} {pos : Pos} {t : TGs} {n : Nat} (hc : X.calm = true) (h : PGs X es t)
    (hn : (assignEach es X.env).length = n := by rfl) (hst : (assignEach es X.env).findIdx? (·.1) = none := by rfl) (hK : X.K = K := by rfl) : PG X (.Tuple es k pos) (gTup K n t) := by
  subst hK
  exact pg_tup hc h hn hst
theorem piK_tup {tg l : Expr} {tl : TE} (h : PE X l tl) (hK : X.K = K := by rfl) : PI X tg l (iTup K tl) := by
  subst hK
  exact pi_tup h
theorem piK_list {tg l : Expr} {tl : TE} (h : PE X l tl) (hK : X.K = K := by rfl) : PI X tg l (iList K tl) := by
  subst hK
  exact pi_list h
theorem piK_enumT {e : Expr} {ta : TA} {p pos tpos : Pos} {elts : List Expr} {kk : Nat} (hg : Gl X "enumerate") (hm : X.mg "enumerate" = none) (ha : PA X [e] ta) (hs : starEach [e] X.env = [(false, eval e X.env)] := by rfl) (hK : X.K = K := by rfl) :
    PI X (.Tuple elts kk tpos) (.Call (.Name "enumerate" p) [e] [] pos) (iEnumT K ta) := by
  subst hK
  exact pi_enumT hg hm ha hs
theorem piK_enum {e : Expr} {ta : TA} {p pos tpos : Pos} {elts : List Expr} {kk : Nat} (hg : Gl X "enumerate") (hm : X.mg "enumerate" = none) (ha : PA X [e] ta) (hs : starEach [e] X.env = [(false, eval e X.env)] := by rfl) (hK : X.K = K := by rfl) :
    PI X (.Tuple elts kk tpos) (.Call (.Name "enumerate" p) [e] [] pos) (iEnum K ta) := by
  subst hK
  exact pi_enum hg hm ha hs
theorem peK_revT {e : Expr} {te : TE} {k : Nat} {p1 p2 p3 pos : Pos} (he : PE X e te) (hK : X.K = K := by rfl) : PE X (.Subscript e (.Slice none none (some (.UnaryOp .USub (.Constant (.int 1) k p1) p2)) p3) pos) (tRevT K te) := by
  subst hK
  exact pe_revT he
end
/-! ### with a word of what comes -/
def Gv (te : TE) (σ : L2.St) (H : Hp) (P : V → Hp → Prop) : Prop := ∀ H1, Ex H H1 → ∀ Q : VK, (∀ v H2, Ex H1 H2 → P v H2 → Q v H2) → te σ H1 Q
/-- a promise: what is asked, what comes; the rest stands -/
def mkSp (A : List V → Hp → (V → Hp → Prop) → Prop) : Sp := fun vs H Q _ => ∃ P, A vs H P ∧ ∀ v H2, Ex H H2 → P v H2 → Q v H2
def SpG (sp : Sp) (vs : List V) (H : Hp) (P : V → Hp → Prop) : Prop := ∀ H1, Ex H H1 → ∀ Q : VK, (∀ v H2, Ex H1 H2 → P v H2 → Q v H2) → ∀ E : XK, sp vs H1 Q E
abbrev IsV (z : V) : V → Hp → Prop := fun v _ => v = z
section
variable {K : PySem.W.Frag} {σ : L2.St} {H H' : Hp} {ta tb te tx : TE} {t u : TT} {x y z v : V} {r : R2} {sp : Sp} {vs : List V} {A : List V → Hp → (V → Hp → Prop) → Prop} {P : V → Hp → Prop} {D : Ends} {tz : TS}
theorem Gv.mono (e : Ex H H') (h : Gv te σ H P) : Gv te σ H' P := fun H1 a Q q => h H1 (e.trans a) Q q
theorem Gv.imp {P' : V → Hp → Prop} (h : Gv te σ H P) (i : ∀ v H2, Ex H H2 → P v H2 → P' v H2) : Gv te σ H P' := fun H1 a Q q => h H1 a Q fun v H2 e2 p => q v H2 e2 (i v H2 (a.trans e2) p)
theorem Ev.gv (h : Ev te σ H v) : Gv te σ H (IsV v) := fun H1 a Q q => h H1 a Q fun H2 e2 => q v H2 e2 rfl
theorem Gv.ev (h : Gv te σ H (IsV v)) : Ev te σ H v := fun H1 a Q q => h H1 a Q fun w H2 e2 p => by
  subst p
  exact q H2 e2
theorem spg (h : ∀ H1, Ex H H1 → A vs H1 P) : SpG (mkSp A) vs H P := fun H1 e Q q E => ⟨P, h H1 e, q⟩
theorem spv (h : ∀ H1, Ex H H1 → A vs H1 (IsV z)) : SpV (mkSp A) vs H z := fun H1 e Q q E => ⟨IsV z, h H1 e, fun v H2 e2 p => by
  subst p
  exact q H2 e2⟩
theorem SpG.val (h : SpG sp vs H (IsV z)) : SpV sp vs H z := fun H1 e Q q E => h H1 e Q (fun v H2 e2 p => by
  subst p
  exact q H2 e2) E
theorem gv_call {dvs : List V} {E : XK} {tt : TA} (h : EvA tt σ H vs) (hs : SpG sp (vs ++ dvs) H P) : Gv (tCall sp dvs E tt) σ H P := fun H1 e Q q =>
  h H1 e _ fun H2 e2 => hs H2 (e.trans e2) Q (fun v H3 e3 p => q v H3 (e2.trans e3) p) E
theorem s_retG (h : Gv te σ H P) (k : ∀ v H1, Ex H H1 → P v H1 → D.rt v H1) : tRet te D σ H := h H (Ex.refl H) _ k
theorem s_asgG {i : Nat} (h : Gv te σ H P) (k : ∀ v H1, Ex H H1 → P v H1 → D.nx (σ.set i (some v)) H1) : tAsg te (gName i) D σ H := h H (Ex.refl H) _ k
theorem q_asgG {i : Nat} (h : Gv te σ H P) (k : ∀ v H1, Ex H H1 → P v H1 → tz D (σ.set i (some v)) H1) : tSeq (tAsg te (gName i)) tz D σ H := h H (Ex.refl H) _ k
theorem q_dropG (h : Gv te σ H P) (k : ∀ v H1, Ex H H1 → P v H1 → tz D σ H1) : tSeq (tDrop te) tz D σ H := h H (Ex.refl H) _ fun v H1 e p => k v H1 e p
theorem s_dropG (h : Gv te σ H P) (k : ∀ v H1, Ex H H1 → P v H1 → D.nx σ H1) : tDrop te D σ H := h H (Ex.refl H) _ fun v H1 e p => k v H1 e p
/-- an operand that is a new object: P holds of it -/
theorem gv_op {Pa : V → Hp → Prop} (ha : Gv ta σ H Pa) (hb : ∀ x H1, Ex H H1 → Pa x H1 → Ev tb σ H1 y) (hr : ∀ x H1, Ex H H1 → Pa x H1 → Ev tb σ H1 y → ∀ H2, Ex H1 H2 → ∀ Q : VK, (∀ v H3, Ex H2 H3 → P v H3 → Q v H3) → r x y H2 Q) : Gv (tOp r ta tb) σ H P := fun H1 e Q q =>
  ha H1 e _ fun x H2 e2 p => hb x H2 (e.trans e2) p H2 (Ex.refl H2) _ fun H3 e3 => hr x H2 (e.trans e2) p (hb x H2 (e.trans e2) p) H3 e3 Q fun v H4 e4 pv => q v H4 ((e2.trans e3).trans e4) pv
theorem gv_if {b : Bool} (h : EvT t σ H b) (h1 : b = true → Gv ta σ H P) (h2 : b = false → Gv tb σ H P) : Gv (tIf t ta tb) σ H P := fun H1 e Q q => h H1 e _ fun H2 e2 => by
  cases b with
  | true =>
    show ta σ H2 Q
    exact h1 rfl H2 (e.trans e2) Q fun v H3 e3 p => q v H3 (e2.trans e3) p
  | false =>
    show tb σ H2 Q
    exact h2 rfl H2 (e.trans e2) Q fun v H3 e3 p => q v H3 (e2.trans e3) p
/-! ### fields -/
theorem ev_fld {f : Str} {p C dx : Addr} {fs : List (Str × V)} (ha : Ev ta σ H (.ref p)) (hC : Cls K C) (hn : NoAttr K C f) (hp : H p = some (.ins C dx fs)) (hl : fs.lookup f = some v) : Ev (tFld K ta f) σ H v := fun H1 e Q q =>
  ha H1 e _ fun H2 e2 => ⟨p, C, dx, fs, v, rfl, (e.trans e2) p _ hp, hC, hn, hl, q H2 e2⟩
/-! ### isinstance -/
theorem rc_isi {c : V} {t u : Value} {b : Bool} (hc : ClsV c u) (hx : ∀ H1, Ex H H1 → TyX K H1 x t) (hk : PySem.W.kitOne K t u = some b) : RC (rIsi K) [x, c] H (.bl b) := fun H1 e Q q => ⟨x, c, t, u, b, rfl, hc, hx H1 e, hk, q H1 (Ex.refl H1)⟩
theorem ev_cb1 {rr : List V → Hp → VK → Prop} (h : Ev ta σ H x) (hr : RC rr [x] H z) : Ev (tCB rr (tCons ta tNil)) σ H z := ev_cb (ea_cons h ea_nil) hr
theorem ev_cb2 {rr : List V → Hp → VK → Prop} (h : Ev ta σ H x) (h2 : Ev tb σ H y) (hr : RC rr [x, y] H z) : Ev (tCB rr (tCons ta (tCons tb tNil))) σ H z := ev_cb (ea_cons h (ea_cons h2 ea_nil)) hr
theorem rc_all {a : Addr} {bs : List Bool} (h : SqL K H a (bs.map V.bl)) : RC (rAll K) [.ref a] H (.bl (bs.all id)) := fun H1 e Q q => ⟨a, bs, rfl, ex_l e h, q H1 (Ex.refl H1)⟩
theorem ev_allN {bs : List Bool} (h : EvL ta σ H (bs.map V.bl)) : Ev (tCB (rAll K) (tCons ta tNil)) σ H (.bl (bs.all id)) := fun H1 e Q q => h H1 e _ fun p H2 _ e2 h2 => ⟨p, bs, rfl, sq_of h2, q H2 e2⟩
theorem ev_anyN {bs : List Bool} (h : EvL ta σ H (bs.map V.bl)) : Ev (tCB (rAny K) (tCons ta tNil)) σ H (.bl (bs.any id)) := fun H1 e Q q => h H1 e _ fun p H2 _ e2 h2 => ⟨p, bs, rfl, sq_of h2, q H2 e2⟩
/-- tuple(a new list) -/
theorem eu_tupN {xs : List V} (h : EvL ta σ H xs) : EvU (tCB (rTupO K) (tCons ta tNil)) σ H xs := fun H1 e Q q =>
  h H1 e _ fun p H2 _ e2 h2 => ⟨p, xs, rfl, Or.inl ⟨sq_of h2, fun l hl => q l _ (fresh_back e2 hl) (e2.trans (Ex.new hl)) upd_same⟩⟩
theorem ev_chain {r' : R2} {tc : TE} {k b : Bool} {w' : V} (ha : Ev ta σ H x) (hb : Ev tb σ H y) (hr : RV r x y H (.bl k)) (hc : k = true → Ev tc σ H w') (hr' : k = true → RV r' y w' H (.bl b)) (hf : k = false → b = false) : Ev (tChain r r' ta tb tc) σ H (.bl b) := fun H1 e Q q =>
  ha H1 e _ fun H2 e2 => hb H2 (e.trans e2) _ fun H3 e3 => hr H3 ((e.trans e2).trans e3) _ fun H4 e4 => ⟨k, rfl, by
    cases k with
    | true =>
      rw [if_pos rfl]
      exact hc rfl H4 (((e.trans e2).trans e3).trans e4) _ fun H5 e5 => hr' rfl H5 ((((e.trans e2).trans e3).trans e4).trans e5) Q fun H6 e6 => q H6 ((((e2.trans e3).trans e4).trans e5).trans e6)
    | false =>
      rw [if_neg (by decide), ← hf rfl]
      exact q H4 ((e2.trans e3).trans e4)⟩
/-! isinstance, by the value's kind -/
theorem ei_int {i : Int} {n : String} {b : Bool} (h : Ev ta σ H (.int i)) (hk : kitB "int" n = some b := by decide +kernel) : Ev (tCB (rIsi K) (tCons ta (tCons (tC (.ty n)) tNil))) σ H (.bl b) :=
  ev_cb2 h ev_c (rc_isi (ClsV.ty n) (fun _ _ => .base (.int i)) (kit_ty hk))
theorem ei_str {z : Str} {n : String} {b : Bool} (h : Ev ta σ H (.str z)) (hk : kitB "str" n = some b := by decide +kernel) : Ev (tCB (rIsi K) (tCons ta (tCons (tC (.ty n)) tNil))) σ H (.bl b) :=
  ev_cb2 h ev_c (rc_isi (ClsV.ty n) (fun _ _ => .base (.str z)) (kit_ty hk))
theorem tyx_tup {a : Addr} {xs : List V} (h : SqT K H a xs) : TyX K H (.ref a) (.type "tuple") := by
  rcases h with (h | ⟨o, h⟩) | ⟨o, its, n, h, hc, _⟩
  · exact .base (.tup h)
  · exact .fTuple h
  · exact .kTuple h hc
theorem ei_tup {a : Addr} {xs : List V} {n : String} {b : Bool} (h : Ev ta σ H (.ref a)) (hx : SqT K H a xs) (hk : kitB "tuple" n = some b := by decide +kernel) : Ev (tCB (rIsi K) (tCons ta (tCons (tC (.ty n)) tNil))) σ H (.bl b) :=
  ev_cb2 h ev_c (rc_isi (ClsV.ty n) (fun _ e => tyx_tup (ex_t e hx)) (kit_ty hk))
theorem ev_and1 {a b c : Bool} (h1 : Ev ta σ H (.bl a)) (h2 : a = true → Ev tb σ H (.bl b)) (hc : (a && b) = c) : Ev (tAndV ta tb) σ H (.bl c) := by
  subst hc
  exact ev_andV h1 h2
end
section
variable {P : Program} {w : World} {K : PySem.W.Frag} {mg : Str → Option Value} {σ : L2.St} {H : Hp} {ta : TE}
theorem tyx_fm (T : Tx P w K mg) {a dx : Addr} {fs : List (Str × V)} (h : H a = some (.ins (C_FlagMember K) dx fs)) : TyX K H (.ref a) (.ref (C_FlagMember K)) := .base (.ins h T.c_FlagMember T.fm_class T.oc_get T.oc_tak T.fm_obj)
/-- isinstance of a member, of an int -/
theorem ei_fm (T : Tx P w K mg) {a dx C : Addr} {fs : List (Str × V)} {b : Bool} (h : Ev ta σ H (.ref a)) (hp : H a = some (.ins (C_FlagMember K) dx fs)) (hk : PySem.W.kitOne K (.ref (C_FlagMember K)) (.ref C) = some b) :
    Ev (tCB (rIsi K) (tCons ta (tCons (tC (.ref C)) tNil))) σ H (.bl b) := ev_cb2 h ev_c (rc_isi (ClsV.own C) (fun _ e => tyx_fm T (e a _ hp)) hk)
theorem ei_intO {i : Int} {C : Addr} {b : Bool} (h : Ev ta σ H (.int i)) (hk : PySem.W.kitOne K (.type "int") (.ref C) = some b) :
    Ev (tCB (rIsi K) (tCons ta (tCons (tC (.ref C)) tNil))) σ H (.bl b) := ev_cb2 h ev_c (rc_isi (ClsV.own C) (fun _ _ => .base (.int i)) hk)
end
end EC
end
section
set_option Elab.async false
set_option linter.all false
set_option maxRecDepth 100000
set_option maxHeartbeats 2000000
/-! B2: comprehensions and loops over any walk, by Ex. -/
namespace EC
open PySem PySem.Spec PyProof.Rows L2 Evl
section
variable {K : PySem.W.Frag} {σ : L2.St} {H H' : Hp} {ta tb te tx : TE} {t u : TT} {x y z v : V} {r : R2} {D : Ends} {tz : TS}
theorem rv_is (h : RV r x y H v) (e : v = z) : RV r x y H z := by
  rw [← e]
  exact h
theorem cw_turn2 {f : Nat → Bool} {v : Nat → V} {Dl : Addr} {i : Nat} {σ2 : L2.St} (p : Cw H f v Dl i H') (hi : i < 50000) (ht : EvT t σ2 H' (f i)) (he : f i = true → Ev te σ2 H' (v i)) :
    t σ2 H' fun b H3 => if b = true then te σ2 H3 fun y H4 => ∃ acc, H4 Dl = some (.lst acc) ∧ acc.length < sizeLine ∧ Cw H f v Dl (i + 1) (upd H4 Dl (.lst (acc ++ [y]))) else Cw H f v Dl (i + 1) H3 := by
  obtain ⟨p1, p2, p3⟩ := p
  refine ht H' (Ex.refl H') _ fun H3 e3 => ?_
  cases hf : f i with
  | true =>
    show te σ2 H3 fun y H4 => ∃ acc, H4 Dl = some (.lst acc) ∧ acc.length < sizeLine ∧ Cw H f v Dl (i + 1) (upd H4 Dl (.lst (acc ++ [y])))
    refine he hf H3 e3 _ fun H4 e4 => ⟨given i f v, e4 Dl _ (e3 Dl _ p3), sz_lt (by have := given_len i f v; omega), p1, Ex.mut ((p2.trans e3).trans e4) p1, ?_⟩
    rw [given_yes hf]
    exact upd_same
  | false =>
    show Cw H f v Dl (i + 1) H3
    refine ⟨p1, p2.trans e3, ?_⟩
    rw [given_no hf]
    exact e3 Dl _ p3
/-- what a walked thing does: its iterator comes, the rest stands -/
def EvI (wi : TI) (σ : L2.St) (H : Hp) (J : It) : Prop := ∀ H1, Ex H H1 → ∀ R : It → Hp → Prop, (∀ H2, Ex H1 H2 → R J H2) → wi σ H1 R
/-- a comprehension over any walk; turn i hands x, its target puts the slots s2 -/
theorem el_lcW {J : It} {n : Nat} {G : Hp → Prop} {Y : Nat → Hp → V → Hp → Prop} {wi : TI} {g : TG} {vs : List Nat} (W : Walk J n G Y) (f : Nat → Bool) (v : Nat → V) (hwi : EvI wi σ H J) (hn : n ≤ 40000) (hG : ∀ H1, Ex H H1 → G H1)
    (hs : ∀ i x H1 H2, i < n → Ex H H1 → Y i H1 x H2 → Ex H1 H2 ∧ ∃ σ2, (∀ Q : L2.St → Hp → Prop, Q σ2 H2 → g x (wipe σ vs) H2 Q) ∧ wipe σ2 vs = wipe σ vs ∧ EvT t σ2 H2 (f i) ∧ (f i = true → Ev te σ2 H2 (v i))) :
    EvL (tLc wi g t te vs) σ H (given n f v) := fun H0 e Q q => hwi H0 e _ fun H1 e1 Dl hD =>
  lc_it W (Cw H1 f v Dl) ⟨hD, Ex.new hD, upd_same⟩ (fun i H' _ p => hG _ ((e.trans e1).trans p.2.1)) (fun i x H2 H3 hi p y => by
    obtain ⟨e3, σ2, hg, hw, ht, he⟩ := hs i x H2 H3 hi ((e.trans e1).trans p.2.1) y
    refine hg _ ⟨hw, cw_turn2 ⟨p.1, p.2.1.trans e3, e3 Dl _ p.2.2⟩ (by omega) ht he⟩)
  fun H2 p => q Dl H2 (fresh_back e1 p.1) (e1.trans p.2.1) p.2.2
/-- .. each item new: what is known of the i-th is P i -/
structure Lp (H : Hp) (P : Nat → V → Hp → Prop) (n : Nat) (Dl : Addr) (H' : Hp) : Prop where
  none_ : H Dl = none
  ex : Ex H H'
  lst : ∃ xs : List V, H' Dl = some (.lst xs) ∧ xs.length = n ∧ ∀ i x, xs[i]? = some x → P i x H'
theorem gl_lcW {J : It} {n : Nat} {G : Hp → Prop} {Y : Nat → Hp → V → Hp → Prop} {wi : TI} {g : TG} {vs : List Nat} (W : Walk J n G Y) (P : Nat → V → Hp → Prop) (hP : ∀ i x H1 H2, P i x H1 → (∀ a o, H1 a = some o → (∀ xs, o ≠ .lst xs) → H2 a = some o) → P i x H2) (hwi : EvI wi σ H J) (hn : n ≤ 40000) (hG : ∀ H1, Ex H H1 → G H1)
    (hs : ∀ i x H1 H2, i < n → Ex H H1 → Y i H1 x H2 → Ex H1 H2 ∧ ∃ σ2, (∀ Q : L2.St → Hp → Prop, Q σ2 H2 → g x (wipe σ vs) H2 Q) ∧ wipe σ2 vs = wipe σ vs ∧ Gv te σ2 H2 (P i)) :
    Gv (tLc wi g tYes te vs) σ H (fun v H' => ∃ p xs, v = .ref p ∧ H p = none ∧ H' p = some (.lst xs) ∧ xs.length = n ∧ ∀ i x, xs[i]? = some x → P i x H') := fun H0 e Q q => hwi H0 e _ fun H1 e1 Dl hD =>
  lc_it W (fun i H' => Lp H1 P i Dl H') ⟨hD, Ex.new hD, [], upd_same, rfl, fun i x h => by cases h⟩ (fun i H' _ p => hG _ ((e.trans e1).trans p.ex)) (fun i x H2 H3 hi p y => by
    obtain ⟨e3, σ2, hg, hw, he⟩ := hs i x H2 H3 hi ((e.trans e1).trans p.ex) y
    refine hg _ ⟨hw, ?_⟩
    show te σ2 H3 fun y H4 => ∃ acc, H4 Dl = some (.lst acc) ∧ acc.length < sizeLine ∧ Lp H1 P (i + 1) Dl (upd H4 Dl (.lst (acc ++ [y])))
    obtain ⟨xs, hx1, hx2, hx3⟩ := p.lst
    refine he H3 (Ex.refl H3) _ fun z H4 e4 pz => ⟨xs, e4 Dl _ (e3 Dl _ hx1), sz_lt (by omega), p.none_, Ex.mut ((p.ex.trans e3).trans e4) p.none_, xs ++ [z], upd_same, by rw [List.length_append, hx2]; rfl, fun j w hj => ?_⟩
    have keep : ∀ a o, H4 a = some o → (∀ xs, o ≠ .lst xs) → (upd H4 Dl (.lst (xs ++ [z]))) a = some o := fun a o ha hno => by
      by_cases ea : a = Dl
      · subst ea
        have h1 : H4 a = some (.lst xs) := e4 a _ (e3 a _ hx1)
        rw [h1] at ha
        cases ha
        exact absurd rfl (hno xs)
      · rw [upd_ne ea]
        exact ha
    rcases Nat.lt_or_ge j xs.length with hlt | hge
    · rw [List.getElem?_append_left hlt] at hj
      exact hP j w H2 _ (hx3 j w hj) fun a o ha hno => keep a o (e4 a o (e3 a o ha)) hno
    · rw [List.getElem?_append_right hge] at hj
      have e0 : j - xs.length = 0 := by
        have := (List.getElem?_eq_some_iff.mp hj).1
        simp at this
        omega
      rw [e0] at hj
      cases hj
      have ej : j = i := by omega
      subst ej
      exact hP j _ H4 _ pz keep)
  fun H2 p => by
    obtain ⟨xs, hx1, hx2, hx3⟩ := p.lst
    exact q _ H2 (e1.trans p.ex) ⟨Dl, xs, rfl, fresh_back (e.trans e1) p.none_, hx1, hx2, hx3⟩
theorem evi_tup {a : Addr} {xs : List V} (h : Ev ta σ H (.ref a)) (hx : SqT K H a xs) : EvI (iTup K ta) σ H (Itt K a) := fun H1 e R q => h H1 e _ fun H2 e2 => ⟨a, rfl, ⟨xs, ex_t (e.trans e2) hx⟩, q H2 e2⟩
theorem evi_list {a : Addr} {xs : List V} (h : Ev ta σ H (.ref a)) (hx : SqL K H a xs) : EvI (iList K ta) σ H (Itl K a) := fun H1 e R q => h H1 e _ fun H2 e2 => ⟨a, rfl, ⟨xs, ex_l (e.trans e2) hx⟩, q H2 e2⟩
theorem evi_enumT {a : Addr} {xs : List V} {ta : TA} (h : EvA ta σ H [.ref a]) (hx : SqT K H a xs) : EvI (iEnumT K ta) σ H (IteT K a) := fun H1 e R q => h H1 e _ fun H2 e2 => ⟨a, xs, rfl, ex_t (e.trans e2) hx, q H2 e2⟩
theorem evi_enum {a : Addr} {xs : List V} {ta : TA} (h : EvA ta σ H [.ref a]) (hx : SqL K H a xs) : EvI (iEnum K ta) σ H (Ite K a) := fun H1 e R q => h H1 e _ fun H2 e2 => ⟨a, xs, rfl, ex_l (e.trans e2) hx, q H2 e2⟩
theorem evi_rng1 {n : Nat} {ta : TA} (h : EvA ta σ H [.int (n : Int)]) (hn : n ≤ 100000) : EvI (iRng1 ta) σ H (Itr 0 n) := fun H1 e R q => h H1 e _ fun H2 e2 => ⟨(n : Int), rfl, by omega, by omega, by
  have e0 : ((n : Int)).toNat = n := Int.toNat_natCast n
  rw [e0]
  exact q H2 e2⟩
theorem evi_str {z : Str} (h : Ev ta σ H (.str z)) : EvI (iStr ta) σ H (Its z) := fun H1 e R q => h H1 e _ fun H2 e2 => ⟨z, rfl, q H2 e2⟩
theorem el_is {xs ys : List V} (h : EvL te σ H xs) (e : xs = ys) : EvL te σ H ys := e ▸ h
theorem eu_is {xs ys : List V} (h : EvU te σ H xs) (e : xs = ys) : EvU te σ H ys := e ▸ h
theorem given_all (n : Nat) (v : Nat → V) : given n (fun _ => true) v = (List.range n).map v := by
  unfold given
  rw [List.filter_eq_self.mpr (fun _ _ => rfl)]
theorem given_bl (n : Nat) (b : Nat → Bool) : given n (fun _ => true) (fun i => .bl (b i)) = ((List.range n).map b).map V.bl := by
  rw [given_all, List.map_map]
  rfl
theorem at_nat {α : Type} {l : List α} {j : Nat} {c : α} (h : l[j]? = some c) : atI l ((j : Nat) : Int) = some c := by
  unfold atI
  rw [ixN_nat (List.getElem?_eq_some_iff.mp h).1]
  exact h
theorem ev_call1U {sp : Sp} {E : XK} {xs : List V} (h : EvU te σ H xs) (hs : ∀ p H1, Ex H H1 → H1 p = some (.tup xs) → SpV sp [.ref p] H1 z) : Ev (tCall sp [] E (tCons te tNil)) σ H z := fun H1 e Q q =>
  h H1 e _ fun p H2 _ e2 hp => hs p H2 (e.trans e2) hp H2 (Ex.refl H2) Q (fun H3 e3 => q H3 (e2.trans e3)) E
theorem given_ext {n m : Nat} {f : Nat → Bool} {v : Nat → V} (h : n ≤ m) (hf : ∀ i, n ≤ i → i < m → f i = false) : given n f v = given m f v := by
  induction m with
  | zero =>
    have : n = 0 := by omega
    rw [this]
  | succ m ih =>
    rcases Nat.lt_or_ge n (m + 1) with q | q
    · rw [given_no (hf m (by omega) (by omega)), ih (by omega) fun i a b => hf i a (by omega)]
    · have : n = m + 1 := by omega
      rw [this]
theorem ev_sumN {ns : List Int} (h : EvL te σ H (ns.map V.int)) : Ev (tCB (rSum K) (tCons te tNil)) σ H (.int ns.sum) := fun H1 e Q q => h H1 e _ fun p H2 _ e2 h2 => ⟨p, ns, rfl, sq_of h2, q H2 e2⟩
theorem el_listT {p : Addr} {xs : List V} (ha : Ev ta σ H (.ref p)) (h : SqT K H p xs) : EvL (tCB (rListS K) (tCons ta tNil)) σ H xs := fun H1 e Q q =>
  ha H1 e _ fun H2 e2 => ⟨p, xs, rfl, Or.inr (ex_t (e.trans e2) h), fun l hl => q l _ (fresh_back e2 hl) (e2.trans (Ex.new hl)) upd_same⟩
theorem ev_lenT {p : Addr} {xs : List V} (ha : Ev ta σ H (.ref p)) (h : SqT K H p xs) : Ev (tCB (rLenS K) (tCons ta tNil)) σ H (.int (xs.length : Int)) := fun H1 e Q q =>
  ha H1 e _ fun H2 e2 => ⟨p, xs, rfl, Or.inr (ex_t (e.trans e2) h), q H2 e2⟩
/-- targets -/
theorem g_name {i : Nat} {Q : L2.St → Hp → Prop} (h : Q (σ.set i (some x)) H) : gName i x σ H Q := h
theorem g_two {i j : Nat} {a : Addr} {Q : L2.St → Hp → Prop} (ha : SqT K H a [x, y]) (h : Q ((σ.set i (some x)).set j (some y)) H) : gTup K 2 (gCons (gName i) (gCons (gName j) gNil)) (.ref a) σ H Q :=
  ⟨a, [x, y], rfl, ha, rfl, x, [y], rfl, y, [], rfl, rfl, h⟩
/-- a for over any walk -/
theorem s_forW {J : It} {n : Nat} {G : Hp → Prop} {Y : Nat → Hp → V → Hp → Prop} {wi : TI} {g : TG} {tb : TS} (W : Walk J n G Y) (Pv : Nat → L2.St → Hp → Prop) (hwi : EvI wi σ H J) (h0 : ∀ H1, Ex H H1 → Pv 0 σ H1) (hG : ∀ i σ H, i ≤ n → Pv i σ H → G H)
    (hs : ∀ i x σ H H', i < n → Pv i σ H → Y i H x H' → g x σ H' fun σ2 H2 => tb { D with nx := Pv (i + 1), ct := Pv (i + 1), bk := D.nx } σ2 H2) (hd : ∀ σ H, Pv n σ H → D.nx σ H) : tFor wi g tb D σ H :=
  hwi H (Ex.refl H) _ fun H1 e => for_it W Pv (h0 H1 e) hG hs hd
theorem q_forW {J : It} {n : Nat} {G : Hp → Prop} {Y : Nat → Hp → V → Hp → Prop} {wi : TI} {g : TG} {tb : TS} (W : Walk J n G Y) (Pv : Nat → L2.St → Hp → Prop) (hwi : EvI wi σ H J) (h0 : ∀ H1, Ex H H1 → Pv 0 σ H1) (hG : ∀ i σ H, i ≤ n → Pv i σ H → G H)
    (hs : ∀ i x σ H H', i < n → Pv i σ H → Y i H x H' → g x σ H' fun σ2 H2 => tb { D with nx := Pv (i + 1), ct := Pv (i + 1), bk := tz D } σ2 H2) (hd : ∀ σ H, Pv n σ H → tz D σ H) : tSeq (tFor wi g tb) tz D σ H :=
  s_forW (D := { D with nx := tz D }) W Pv hwi h0 hG hs hd
end
end EC
end
section
set_option Elab.async false
set_option linter.all false
set_option maxHeartbeats 2000000
/-! L0: bits of natural numbers below 2 ^ 40, no program in sight. -/
namespace EC
open PySem
theorem bA (n m : Nat) : Builtin.bitAnd (n : Int) (m : Int) = ((n &&& m : Nat) : Int) := by
  unfold Builtin.bitAnd
  simp
theorem bN (n m : Nat) : Builtin.bitAnd (n : Int) (Builtin.bitNot (m : Int)) = ((n - (n &&& m) : Nat) : Int) := by
  have h1 : decide ((0 : Int) ≤ (n : Int)) = true := decide_eq_true (by omega)
  have h2 : decide ((0 : Int) ≤ Builtin.bitNot (m : Int)) = false := decide_eq_false (by unfold Builtin.bitNot; omega)
  have h3 : (Builtin.bitNot (Builtin.bitNot (m : Int))).toNat = m := by unfold Builtin.bitNot; omega
  unfold Builtin.bitAnd
  rw [h1, h2, h3, Int.toNat_natCast]
  have := Nat.and_le_left (n := n) (m := m)
  show (n : Int) - ((n &&& m : Nat) : Int) = _
  omega
theorem bO (n m : Nat) : Builtin.bitOr (n : Int) (m : Int) = ((n ||| m : Nat) : Int) := by
  have h := Bits.bitOr_pp (x := (n : Int)) (y := (m : Int)) (by omega) (by omega)
  rw [Int.toNat_natCast, Int.toNat_natCast] at h
  exact h
theorem bX (n m : Nat) : Builtin.bitXor (n : Int) (m : Int) = ((n ^^^ m : Nat) : Int) := by
  have h := Bits.bitXor_pp (x := (n : Int)) (y := (m : Int)) (by omega) (by omega)
  rw [Int.toNat_natCast, Int.toNat_natCast] at h
  exact h
theorem add_or : ∀ (a b : Nat), a &&& b = 0 → a + b = a ||| b
  | 0, b, _ => by simp
  | a + 1, b, h => by
    have ha : (a + 1) / 2 < a + 1 := by omega
    have h1 : ((a + 1) / 2) &&& (b / 2) = 0 := by
      rw [← Nat.and_div_two, h]
    have ih := add_or ((a + 1) / 2) (b / 2) h1
    have h2 : ((a + 1) &&& b) % 2 = 0 := by rw [h]
    have h3 := Nat.and_mod_two_pow (a := a + 1) (b := b) (n := 1)
    have h4 := Nat.or_div_two (a := a + 1) (b := b)
    have h5 := Nat.or_mod_two_pow (a := a + 1) (b := b) (n := 1)
    simp only [Nat.pow_one] at h3 h5
    rcases Nat.mod_two_eq_zero_or_one (a + 1) with e1 | e1 <;> rcases Nat.mod_two_eq_zero_or_one b with e2 | e2
    all_goals rw [e1, e2] at h3 h5
    · have : (0 ||| 0 : Nat) = 0 := rfl
      omega
    · have : (0 ||| 1 : Nat) = 1 := rfl
      omega
    · have : (1 ||| 0 : Nat) = 1 := rfl
      omega
    · have : (1 &&& 1 : Nat) = 1 := rfl
      omega
/-- n without m -/
def andn (n m : Nat) : Nat := n - (n &&& m)
theorem andn_eq (n m : Nat) : andn n m = n ^^^ (n &&& m) := by
  have h1 : (n ^^^ (n &&& m)) &&& (n &&& m) = 0 := by
    apply Nat.eq_of_testBit_eq
    intro i
    simp only [Nat.testBit_and, Nat.testBit_xor, Nat.zero_testBit]
    cases n.testBit i <;> cases m.testBit i <;> rfl
  have h2 : (n ^^^ (n &&& m)) ||| (n &&& m) = n := by
    apply Nat.eq_of_testBit_eq
    intro i
    simp only [Nat.testBit_and, Nat.testBit_xor, Nat.testBit_or]
    cases n.testBit i <;> cases m.testBit i <;> rfl
  have h3 : (n ^^^ (n &&& m)) + (n &&& m) = n := by
    have h4 := add_or (n ^^^ (n &&& m)) (n &&& m) h1
    rw [h2] at h4
    exact h4
  unfold andn
  omega
theorem andn_bit (n m i : Nat) : (andn n m).testBit i = (n.testBit i && !m.testBit i) := by
  rw [andn_eq, Nat.testBit_xor, Nat.testBit_and]
  cases n.testBit i <;> cases m.testBit i <;> rfl
/-- the places -/
def pcs (n : Nat) : List Nat := (List.range 40).filter n.testBit
def pc (n : Nat) : Nat := (pcs n).length
def lt40 (n : Nat) : Prop := n < 2 ^ 40
theorem bit_high {n i : Nat} (h : lt40 n) (hi : 40 ≤ i) : n.testBit i = false := Nat.testBit_lt_two_pow (Nat.lt_of_lt_of_le h (Nat.pow_le_pow_right (by decide) hi))
theorem lt_of_bits {n : Nat} (h : ∀ i, 40 ≤ i → n.testBit i = false) : lt40 n := Nat.lt_pow_two_of_testBit n h
theorem lt_and {n m : Nat} (h : lt40 n) : lt40 (n &&& m) := Nat.lt_of_le_of_lt Nat.and_le_left h
theorem lt_or {n m : Nat} (h : lt40 n) (h2 : lt40 m) : lt40 (n ||| m) := Nat.or_lt_two_pow h h2
theorem lt_xor {n m : Nat} (h : lt40 n) (h2 : lt40 m) : lt40 (n ^^^ m) := Nat.xor_lt_two_pow h h2
theorem lt_andn {n m : Nat} (h : lt40 n) : lt40 (andn n m) := Nat.lt_of_le_of_lt (Nat.sub_le _ _) h
/-- part -/
def Sub (n m : Nat) : Prop := ∀ i, n.testBit i = true → m.testBit i = true
theorem sub_iff (n m : Nat) : n &&& m = n ↔ Sub n m := by
  constructor
  · intro h i hi
    have h2 := congrArg (fun z => Nat.testBit z i) h
    simp only [Nat.testBit_and, hi, Bool.true_and] at h2
    exact h2
  · intro h
    apply Nat.eq_of_testBit_eq
    intro i
    rw [Nat.testBit_and]
    cases e : n.testBit i with
    | false => rfl
    | true => rw [h i e]; rfl
theorem or_iff (n m : Nat) : n ||| m = m ↔ Sub n m := by
  constructor
  · intro h i hi
    have h2 := congrArg (fun z => Nat.testBit z i) h
    simp only [Nat.testBit_or, hi, Bool.true_or] at h2
    exact h2.symm
  · intro h
    apply Nat.eq_of_testBit_eq
    intro i
    rw [Nat.testBit_or]
    cases e : n.testBit i with
    | false => rw [Bool.false_or]
    | true => rw [h i e]; rfl
theorem Sub.refl (n : Nat) : Sub n n := fun _ h => h
theorem Sub.trans {a b c : Nat} (h : Sub a b) (g : Sub b c) : Sub a c := fun i z => g i (h i z)
theorem Sub.anti {a b : Nat} (h : Sub a b) (g : Sub b a) : a = b := by
  apply Nat.eq_of_testBit_eq
  intro i
  cases e : a.testBit i with
  | true => rw [h i e]
  | false =>
    cases e2 : b.testBit i with
    | false => rfl
    | true =>
      rw [g i e2] at e
      cases e
theorem sub_or {a b c : Nat} (h : Sub a c) (g : Sub b c) : Sub (a ||| b) c := fun i z => by
  rw [Nat.testBit_or, Bool.or_eq_true] at z
  rcases z with z | z
  · exact h i z
  · exact g i z
theorem sub_and {a b c : Nat} (h : Sub c a) (g : Sub c b) : Sub c (a &&& b) := fun i z => by
  rw [Nat.testBit_and, h i z, g i z]
  rfl
theorem sub_or_mono {a b c : Nat} (h : Sub a b) : Sub (a ||| c) (b ||| c) := fun i z => by
  rw [Nat.testBit_or, Bool.or_eq_true] at z ⊢
  exact z.imp (h i) id
theorem sub_and_mono {a b c : Nat} (h : Sub a b) : Sub (a &&& c) (b &&& c) := fun i z => by
  rw [Nat.testBit_and, Bool.and_eq_true] at z ⊢
  exact ⟨h i z.1, z.2⟩
theorem sub_left (a b : Nat) : Sub a (a ||| b) := fun i z => by rw [Nat.testBit_or, z]; rfl
theorem sub_right (a b : Nat) : Sub b (a ||| b) := fun i z => by rw [Nat.testBit_or, z, Bool.or_true]
theorem andn_sub (a b : Nat) : Sub (andn a b) a := fun i z => by
  rw [andn_bit, Bool.and_eq_true] at z
  exact z.1
theorem andn_zero (a b : Nat) : andn a b = 0 ↔ Sub a b := by
  constructor
  · intro h i z
    have h2 := andn_bit a b i
    rw [h, Nat.zero_testBit, z] at h2
    cases e : b.testBit i with
    | true => rfl
    | false =>
      rw [e] at h2
      cases h2
  · intro h
    apply Nat.eq_of_testBit_eq
    intro i
    rw [andn_bit, Nat.zero_testBit]
    cases e : a.testBit i with
    | false => rfl
    | true => rw [h i e]; rfl
theorem andn_and (a b : Nat) : andn a b &&& b = 0 := by
  apply Nat.eq_of_testBit_eq
  intro i
  rw [Nat.testBit_and, andn_bit, Nat.zero_testBit]
  cases a.testBit i <;> cases b.testBit i <;> rfl
/-! counts -/
theorem cnt_add (l : List Nat) (a b c d : Nat) (h : ∀ i, (a.testBit i).toNat + (b.testBit i).toNat = (c.testBit i).toNat + (d.testBit i).toNat) :
    (l.filter a.testBit).length + (l.filter b.testBit).length = (l.filter c.testBit).length + (l.filter d.testBit).length := by
  induction l with
  | nil => rfl
  | cons x l ih =>
    have hx := h x
    simp only [List.filter_cons]
    cases e1 : a.testBit x <;> cases e2 : b.testBit x <;> cases e3 : c.testBit x <;> cases e4 : d.testBit x <;> simp only [e1, e2, e3, e4, Bool.toNat_true, Bool.toNat_false, if_true, Bool.false_eq_true, if_false, List.length_cons] at hx ⊢ <;> omega
theorem pc_or_and (a b : Nat) : pc (a ||| b) + pc (a &&& b) = pc a + pc b := cnt_add _ _ _ _ _ fun i => by
  rw [Nat.testBit_or, Nat.testBit_and]
  cases a.testBit i <;> cases b.testBit i <;> rfl
theorem pc_zero : pc 0 = 0 := by
  unfold pc pcs
  rw [List.filter_eq_nil_iff.mpr (fun i _ => by rw [Nat.zero_testBit]; decide)]
  rfl
theorem pc_xor (a b : Nat) : pc (a ^^^ b) = pc (andn a b) + pc (andn b a) := by
  have h := cnt_add (List.range 40) (a ^^^ b) 0 (andn a b) (andn b a) fun i => by
    rw [Nat.testBit_xor, andn_bit, andn_bit, Nat.zero_testBit]
    cases a.testBit i <;> cases b.testBit i <;> rfl
  have z := pc_zero
  unfold pc pcs at z ⊢
  omega
theorem pc_pos {n : Nat} (h : lt40 n) (h0 : n ≠ 0) : 0 < pc n := by
  obtain ⟨i, hi⟩ : ∃ i, n.testBit i = true := by
    refine Classical.byContradiction fun q => h0 (Nat.eq_of_testBit_eq fun i => ?_)
    rw [Nat.zero_testBit]
    cases e : n.testBit i with
    | false => rfl
    | true => exact absurd ⟨i, e⟩ q
  have h40 : i < 40 := by
    rcases Nat.lt_or_ge i 40 with q | q
    · exact q
    · rw [bit_high h q] at hi
      cases hi
  unfold pc pcs
  exact List.length_pos_of_mem (List.mem_filter.mpr ⟨List.mem_range.mpr h40, hi⟩)
theorem pc_lt {a b : Nat} (hb : lt40 b) (h : Sub a b) (hne : a ≠ b) : pc a < pc b := by
  have h1 := cnt_add (List.range 40) b 0 a (andn b a) fun i => by
    rw [andn_bit, Nat.zero_testBit]
    cases e : a.testBit i with
    | false => cases b.testBit i <;> rfl
    | true => rw [h i e]; rfl
  have h2 : 0 < pc (andn b a) := pc_pos (lt_andn hb) fun z => hne (h.anti ((andn_zero b a).mp z))
  have z := pc_zero
  unfold pc pcs at z h2 ⊢
  omega
end EC
end
section
set_option Elab.async false
set_option linter.all false
set_option maxRecDepth 100000
set_option maxHeartbeats 2000000
namespace EC
open PySem PySem.Spec PyProof.Rows L2 Evl
section
variable {P : Program} {w : World} {K : PySem.W.Frag} {mg : Str → Option Value} {base : Heap}
theorem rc_lenS {σ : L2.St} {H : Hp} {z : Str} (h : z.length ≤ 100000) : RC (fun xs H Q => ∃ z : Str, xs = [.str z] ∧ z.length ≤ sizeLine ∧ Q (.int z.length) H) [.str z] H (.int z.length) := fun H1 _ _ q => ⟨z, rfl, sz_of h, q H1 (Ex.refl H1)⟩
theorem rv_inS {H : Hp} {c : Nat} {z : Str} : RV (fun x y H Q => ∃ (c : Nat) (z : Str), x = .str ⟨#[c]⟩ ∧ y = .str z ∧ Q (.bl (decide (c ∈ z.cps.toList))) H) (.str ⟨#[c]⟩) (.str z) H (.bl (decide (c ∈ z.cps.toList))) := fun H1 _ _ q => ⟨c, z, rfl, rfl, q H1 (Ex.refl H1)⟩
theorem rv_niS {H : Hp} {c : Nat} {z : Str} : RV (fun x y H Q => ∃ (c : Nat) (z : Str), x = .str ⟨#[c]⟩ ∧ y = .str z ∧ Q (.bl (!decide (c ∈ z.cps.toList))) H) (.str ⟨#[c]⟩) (.str z) H (.bl (!decide (c ∈ z.cps.toList))) := fun H1 _ _ q => ⟨c, z, rfl, rfl, q H1 (Ex.refl H1)⟩
/-- an int is an integer -/
def spIsInt : Sp := mkSp fun vs H P => ∃ i : Int, vs = [.int i] ∧ P = IsV (.bl true)
theorem sc_is_integer : FnScope ["value"] ["value"] (defScope s_is_integer) := ⟨rfl, rfl, rfl, by decide +kernel, rfl, by decide +kernel, by decide +kernel⟩
theorem fn_is_integer (T : Tx P w K mg) : ∃ fd, Fn P w K mg base 1 "is_integer" ["value"] (spIsInt) fd := by
  obtain ⟨fd, F⟩ := T.f_is_integer
  have nd := sc_is_integer.nd
  refine ⟨fd, ⟨F.ok sc_is_integer (fun vs H Q E h => ?_) (fun cdv A outer s H vs Q E hr h => ⟨_, PSs.nox ((pss_one (ps_ret (pe_and (pe_callB (callK_isi (K := K)) (by rfl) T.b_isinstance bo_isinstance (pa_cons (pv 0) (pa_cons (pe_ty_int (by rfl) T.b_int) pa_nil))) (pe_one (pe_not (pe_callB (callK_isi (K := K)) (by rfl) T.b_isinstance bo_isinstance (pa_cons (pv 0) (pa_cons (pe_ty_bool (by rfl) T.b_bool) pa_nil))))))))), ?_⟩), F.bindsN fun _ _ _ _ _ _ us hl => match us, hl with | [_], _ => rfl, F.kp, T.m_is_integer⟩⟩
  · obtain ⟨_, h, _⟩ := h
    obtain ⟨i, rfl, rfl⟩ := h
    rfl
  · obtain ⟨Pz, h, k⟩ := h
    obtain ⟨i, rfl, rfl⟩ := h
    exact s_ret (ev_andV (a := true) (b := true) (ei_int (ev_var rfl)) fun _ => ev_notV (a := false) (ei_int (ev_var rfl))) fun H1 e1 => k _ H1 e1 rfl
/-- an int is no text -/
def spIsText : Sp := mkSp fun vs H P => ∃ i : Int, vs = [.int i] ∧ P = IsV (.bl false)
theorem sc_is_text : FnScope ["value"] ["value"] (defScope s_is_text) := ⟨rfl, rfl, rfl, by decide +kernel, rfl, by decide +kernel, by decide +kernel⟩
theorem fn_is_text (T : Tx P w K mg) : ∃ fd, Fn P w K mg base 1 "is_text" ["value"] (spIsText) fd := by
  obtain ⟨fd, F⟩ := T.f_is_text
  have nd := sc_is_text.nd
  refine ⟨fd, ⟨F.ok sc_is_text (fun vs H Q E h => ?_) (fun cdv A outer s H vs Q E hr h => ⟨_, PSs.nox ((pss_one (ps_ret (pe_and (pe_callB (callK_isi (K := K)) (by rfl) T.b_isinstance bo_isinstance (pa_cons (pv 0) (pa_cons (pe_ty_str (by rfl) T.b_str) pa_nil))) (pe_one (pe_cmpR op_le (pe_callB (callK_len (K := K)) (by rfl) T.b_len PySem.boot_len (pa_cons (pv 0) pa_nil)) (pe_gI rfl T.i_LONGEST) (nomark _))))))), ?_⟩), F.bindsN fun _ _ _ _ _ _ us hl => match us, hl with | [_], _ => rfl, F.kp, T.m_is_text⟩⟩
  · obtain ⟨_, h, _⟩ := h
    obtain ⟨i, rfl, rfl⟩ := h
    rfl
  · obtain ⟨Pz, h, k⟩ := h
    obtain ⟨i, rfl, rfl⟩ := h
    exact s_ret (ev_andV (a := false) (b := false) (ei_int (ev_var rfl)) fun z => nomatch z) fun H1 e1 => k _ H1 e1 rfl
/-- a value of a flag's -/
def InFlag (i : Int) : Prop := 0 ≤ i ∧ i < 2 ^ 40
theorem InFlag.lo {i : Int} (h : InFlag i) : (0 : Int) - 1000000000000000000000000000000 ≤ i := by
  have := h.1
  omega
theorem InFlag.hi {i : Int} (h : InFlag i) : i ≤ 1000000000000000000000000000000 := by
  have h := h.2
  have e : (2 : Int) ^ 40 = 1099511627776 := by decide
  omega
def spFlagVal : Sp := mkSp fun vs H P => ∃ i : Int, vs = [.int i] ∧ InFlag i ∧ P = IsV (.bl true)
theorem sc_is_flag_value : FnScope ["value"] ["value"] (defScope s_is_flag_value) := ⟨rfl, rfl, rfl, by decide +kernel, rfl, by decide +kernel, by decide +kernel⟩
theorem fn_is_flag_value (T : Tx P w K mg) : ∃ fd, Fn P w K mg base 2 "is_flag_value" ["value"] (spFlagVal) fd := by
  obtain ⟨fd, F⟩ := T.f_is_flag_value
  obtain ⟨fdGis_integer, Gis_integer⟩ := fn_is_integer (base := base) T
  have nd := sc_is_flag_value.nd
  refine ⟨fd, ⟨F.ok sc_is_flag_value (fun vs H Q E h => ?_) (fun cdv A outer s H vs Q E hr h => ⟨_, PSs.nox ((pss_one (ps_ret (pe_and (pe_call Gis_integer.ok (hr.mono (by decide)) rfl Gis_integer.m Gis_integer.kp Gis_integer.b .nil pass0 (pa_cons (pv 0) pa_nil)) (pe_one (pe_chain op_le op_lt pe_int (pv 0) (pe_op op_shl pe_int (pe_gI rfl T.i_MAX_BITS)))))))), ?_⟩), F.bindsN fun _ _ _ _ _ _ us hl => match us, hl with | [_], _ => rfl, F.kp, T.m_is_flag_value⟩⟩
  · obtain ⟨_, h, _⟩ := h
    obtain ⟨i, rfl, hi, rfl⟩ := h
    rfl
  · obtain ⟨Pz, h, k⟩ := h
    obtain ⟨i, rfl, hi, rfl⟩ := h
    refine s_ret (v := .bl true) (ev_andV (a := true) (b := true) ?_ fun _ => ?_) fun H1 e1 => k _ H1 e1 rfl
    · exact ev_call (ea_cons (ev_var rfl) ea_nil) (spv fun _ _ => ⟨i, rfl, rfl⟩)
    · have h1 : decide ((0 : Int) ≤ i) = true := decide_eq_true hi.1
      have h2 : decide (i < 1 * 2 ^ Int.toNat 40) = true := decide_eq_true hi.2
      exact ev_chain (k := true) ev_c (ev_var rfl) (rv_is rv_I0 (by rw [h1])) (fun _ => ev_op ev_c ev_c (rv_I ⟨by decide, by decide, by decide⟩)) (fun _ => rv_is rv_I0 (by rw [h2])) (fun z => nomatch z)
def spNested : Sp := mkSp fun vs H P => ∃ i : Int, vs = [.int i, .int 3] ∧ InFlag i ∧ P = IsV (.bl true)
theorem sc_is_nested : FnScope ["value", "deep", "item"] ["value", "deep"] (defScope s_is_nested) := ⟨rfl, rfl, rfl, by decide +kernel, rfl, by decide +kernel, by decide +kernel⟩
theorem fn_is_nested (T : Tx P w K mg) : ∃ fd, Fn P w K mg base 2 "is_nested" ["value", "deep"] (spNested) fd := by
  obtain ⟨fd, F⟩ := T.f_is_nested
  obtain ⟨fdGis_integer, Gis_integer⟩ := fn_is_integer (base := base) T
  obtain ⟨fdGis_text, Gis_text⟩ := fn_is_text (base := base) T
  have nd := sc_is_nested.nd
  refine ⟨fd, ⟨F.ok sc_is_nested (fun vs H Q E h => ?_) (fun cdv A outer s H vs Q E hr h => ⟨_, PSs.nox ((pss_cons (ps_if (PW.pt (pw_or (pt_cmpR op_isN (pv 0) pe_non (nomark _)) (pw_or1 (pt_val (pe_call Gis_text.ok (hr.mono (by decide)) rfl Gis_text.m Gis_text.kp Gis_text.b .nil pass0 (pa_cons (pv 0) pa_nil)))))) (pss_one (ps_ret pe_bl)) pss_nil)
  (pss_cons (ps_if (pt_val (pe_call Gis_integer.ok (hr.mono (by decide)) rfl Gis_integer.m Gis_integer.kp Gis_integer.b .nil pass0 (pa_cons (pv 0) pa_nil))) (pss_one (ps_ret (pe_chain op_le op_le (pe_op op_sub pe_int (pe_gI rfl T.i_GREATEST)) (pv 0) (pe_gI rfl T.i_GREATEST)))) pss_nil)
  (pss_cons ps_no (pss_one ps_no))))), ?_⟩), F.bindsN fun _ _ _ _ _ _ us hl => match us, hl with | [_, _], _ => rfl, F.kp, T.m_is_nested⟩⟩
  · obtain ⟨_, h, _⟩ := h
    obtain ⟨i, rfl, hi, rfl⟩ := h
    rfl
  · obtain ⟨Pz, h, k⟩ := h
    obtain ⟨i, rfl, hi, rfl⟩ := h
    refine q_when (b := false) (et_or (a := false) (b := false) ?_ fun _ => et_B ?_) (fun z => nomatch z) fun _ H1 e1 => ?_
    · exact et_test (ev_op (ev_var rfl) ev_c (fun H1 _ _ q => ⟨rfl, q H1 (Ex.refl H1)⟩))
    · exact ev_call (ea_cons (ev_var rfl) ea_nil) (spv fun _ _ => ⟨i, rfl, rfl⟩)
    refine q_when (b := true) (et_B (ev_call (ea_cons (ev_var rfl) ea_nil) (spv fun _ _ => ⟨i, rfl, rfl⟩))) (fun _ H2 e2 => ?_) (fun z => nomatch z)
    have h1 : decide ((0 : Int) - 1000000000000000000000000000000 ≤ i) = true := decide_eq_true hi.lo
    have h2 : decide (i ≤ 1000000000000000000000000000000) = true := decide_eq_true hi.hi
    refine s_ret (v := .bl true) (ev_chain (k := true) (ev_op ev_c ev_c rv_I0) (ev_var rfl) (rv_is rv_I0 (by rw [h1])) (fun _ => ev_c) (fun _ => rv_is rv_I0 (by rw [h2])) (fun z => nomatch z)) fun H3 e3 => k _ H3 ((e1.trans e2).trans e3) rfl
def spValue : Sp := mkSp fun vs H P => ∃ i : Int, vs = [.int i] ∧ InFlag i ∧ P = IsV (.bl true)
theorem sc_is_value : FnScope ["value"] ["value"] (defScope s_is_value) := ⟨rfl, rfl, rfl, by decide +kernel, rfl, by decide +kernel, by decide +kernel⟩
theorem fn_is_value (T : Tx P w K mg) : ∃ fd, Fn P w K mg base 3 "is_value" ["value"] (spValue) fd := by
  obtain ⟨fd, F⟩ := T.f_is_value
  obtain ⟨fdGis_nested, Gis_nested⟩ := fn_is_nested (base := base) T
  have nd := sc_is_value.nd
  refine ⟨fd, ⟨F.ok sc_is_value (fun vs H Q E h => ?_) (fun cdv A outer s H vs Q E hr h => ⟨_, PSs.nox ((pss_one (ps_ret (pe_call Gis_nested.ok (hr.mono (by decide)) rfl Gis_nested.m Gis_nested.kp Gis_nested.b .nil pass0 (pa_cons (pv 0) (pa_cons (pe_gI rfl T.i_DEEPEST) pa_nil)))))), ?_⟩), F.bindsN fun _ _ _ _ _ _ us hl => match us, hl with | [_], _ => rfl, F.kp, T.m_is_value⟩⟩
  · obtain ⟨_, h, _⟩ := h
    obtain ⟨i, rfl, hi, rfl⟩ := h
    rfl
  · obtain ⟨Pz, h, k⟩ := h
    obtain ⟨i, rfl, hi, rfl⟩ := h
    exact s_ret (ev_call (ea_cons (ev_var rfl) (ea_cons ev_c ea_nil)) (spv fun _ _ => ⟨i, rfl, hi, rfl⟩)) fun H1 e1 => k _ H1 e1 rfl
/-- names that are let by -/
def sLet : Str := "ABCDEFGHIJKLMNOPQRSTUVWXYZabcdefghijklmnopqrstuvwxyz_"
def sDig : Str := "0123456789"
def signOk (c : Nat) : Bool := decide (c ∈ sLet.cps.toList) || decide (c ∈ sDig.cps.toList)
def nameOk (z : Str) : Bool := match z.cps.toList with
  | [] => false
  | c :: r => decide (c ∈ sLet.cps.toList) && (decide (c ≠ 95) && (decide ((c :: r).length ≤ 20) && (c :: r).all signOk))
theorem nameOk_ok {z : Str} (h : nameOk z = true) : ∃ c r, z.cps.toList = c :: r ∧ c ∈ sLet.cps.toList ∧ c ≠ 95 ∧ z.length ≤ 20 ∧ 1 ≤ z.length ∧ ∀ d ∈ z.cps.toList, signOk d = true := by
  have ez : z.length = z.cps.toList.length := by simp [Str.length]
  unfold nameOk at h
  cases e : z.cps.toList with
  | nil =>
    rw [e] at h
    cases h
  | cons c r =>
    rw [e] at h
    simp only [Bool.and_eq_true, decide_eq_true_eq, List.all_eq_true] at h
    obtain ⟨h1, h2, h3, h4⟩ := h
    refine ⟨c, r, rfl, h1, h2, ?_, ?_, h4⟩
    · rw [ez, e]
      exact h3
    · rw [ez, e, List.length_cons]
      omega
def spName : Sp := mkSp fun vs H P => ∃ z : Str, vs = [.str z] ∧ nameOk z = true ∧ P = IsV (.bl true)
theorem at0 {c : Nat} {l r : List Nat} (e : l = c :: r) : atI l 0 = some c := by
  subst e
  exact at_nat (j := 0) rfl
theorem sc_is_name : FnScope ["value", "sign"] ["value"] (defScope s_is_name) := ⟨rfl, rfl, rfl, by decide +kernel, rfl, by decide +kernel, by decide +kernel⟩
theorem fn_is_name (T : Tx P w K mg) : ∃ fd, Fn P w K mg base 1 "is_name" ["value"] (spName) fd := by
  obtain ⟨fd, F⟩ := T.f_is_name
  have nd := sc_is_name.nd
  refine ⟨fd, ⟨F.ok sc_is_name (fun vs H Q E h => ?_) (fun cdv A outer s H vs Q E hr h => ⟨_, PSs.nox ((pss_cons (ps_if (PW.pt (pw_or (pt_not (pt_val (pe_callB (callK_isi (K := K)) (by rfl) T.b_isinstance bo_isinstance (pa_cons (pv 0) (pa_cons (pe_ty_str (by rfl) T.b_str) pa_nil))))) (pw_or (pt_not (pt_chain op_le op_le pe_int (pe_callB call_len_str (by rfl) T.b_len PySem.boot_len (pa_cons (pv 0) pa_nil)) (pe_gI rfl T.i_MOST_SIGNS))) (pw_or1 (pt_cmpR op_notIn_sign (pe_ix ix_str (pv 0) pe_int (fun _ _ => rfl)) (pe_gS rfl T.s_LETTERS) (by rfl)))))) (pss_one (ps_ret pe_bl)) pss_nil)
  (pss_one (ps_ret (pe_callB (crK_all (K := K) rfl) (by rfl) T.b_all bo_all (pa_cons (pe_lc (own := [("sign", 1)]) rfl nd (pi_str (pv 0)) (blkOk_by (N := ["value", "sign"]) (sc := defScope s_is_name) (by decide +kernel)) (fun _ _ _ _ _ => (pg_name (i := 1) nd rfl (Or.inl rfl))) (fun _ _ _ _ _ => pts_nil) (fun _ _ _ _ _ => (pe_or (pe_cmpR op_in_sign (pv 1) (pe_gS rfl T.s_LETTERS) (by rfl)) (pe_one (pe_cmpR op_in_sign (pv 1) (pe_gS rfl T.s_DIGITS) (by rfl)))))) pa_nil)))))), ?_⟩), F.bindsN fun _ _ _ _ _ _ us hl => match us, hl with | [_], _ => rfl, F.kp, T.m_is_name⟩⟩
  · obtain ⟨_, h, _⟩ := h
    obtain ⟨z, rfl, hz, rfl⟩ := h
    rfl
  · obtain ⟨Pz, h, k⟩ := h
    obtain ⟨z, rfl, hz, rfl⟩ := h
    obtain ⟨c, r, e, hc, h95, h20, h1, hall⟩ := nameOk_ok hz
    have hl : decide (c ∈ sLet.cps.toList) = true := decide_eq_true hc
    have g1 : decide ((1 : Int) ≤ (z.length : Int)) = true := decide_eq_true (by omega)
    have g2 : decide ((z.length : Int) ≤ 20) = true := decide_eq_true (by omega)
    refine q_when (b := false) (et_or (a := false) (b := false) (et_not (a := true) (et_B (ei_str (ev_var rfl)))) fun _ => et_or (a := false) (b := false) (et_not (a := true) (et_test ?_)) fun _ => et_test ?_) (fun z => nomatch z) fun _ H1 e1 => ?_
    · exact ev_chain (k := true) ev_c (ev_cb1 (ev_var rfl) (rc_lenS (σ := []) (by omega))) (rv_is rv_I0 (by rw [g1])) (fun _ => ev_c) (fun _ => rv_is rv_I0 (by rw [g2])) (fun z => nomatch z)
    · refine ev_op (ev_op (ev_var rfl) ev_c (rv_ixS (by omega) (at0 e))) ev_c (rv_is rv_niS ?_)
      show V.bl (!decide (c ∈ sLet.cps.toList)) = _
      rw [hl]
      rfl
    have hz2 : z.length = z.cps.size := rfl
    refine s_ret (v := .bl true) (ev_is (ev_allN (el_is (el_lcW walk_str (fun _ => true) (fun i => .bl (signOk (z.cps.getD i 0))) (evi_str (ev_var rfl)) (by omega) (fun _ _ => trivial) ?_) (given_bl _ _))) ?_) fun H2 e2 => k _ H2 (e1.trans e2) rfl
    · rintro i x H2 H3 hi e2 ⟨rfl, d, hd, rfl⟩
      refine ⟨Ex.refl _, _, fun Q q => g_name q, rfl, fun H4 e4 Q q => q H4 (Ex.refl H4), fun _ => ?_⟩
      have ed : z.cps.getD i 0 = d := by
        rw [Array.getD_eq_getD_getElem?, hd]
        rfl
      rw [ed]
      exact ev_orV (ev_op (ev_var rfl) ev_c rv_inS) fun _ => ev_op (ev_var rfl) ev_c rv_inS
    · have hb : ((List.range z.cps.size).map fun i => signOk (z.cps.getD i 0)).all id = true := by
        rw [List.all_eq_true]
        intro b hb
        obtain ⟨i, hi, rfl⟩ := List.mem_map.mp hb
        have hi2 : i < z.cps.size := List.mem_range.mp hi
        refine hall _ ?_
        rw [Array.getD_eq_getD_getElem?, Array.getElem?_eq_getElem hi2]
        simp
      rw [hb]
def spReserved : Sp := mkSp fun vs H P => ∃ z : Str, vs = [.str z] ∧ nameOk z = true ∧ P = IsV (.bl false)
theorem sign_ne {c : Nat} (h : c ≠ 95) : decide (V.str ⟨#[c]⟩ = V.str "_") = false := by
  refine decide_eq_false fun e => h ?_
  have e1 : (⟨#[c]⟩ : Str) = "_" := V.str.inj e
  have e2 : (#[c] : Array Nat) = (Str.ofString "_").cps := congrArg Str.cps e1
  have e3 : (Str.ofString "_").cps = #[95] := by decide +kernel
  rw [e3] at e2
  have e4 := congrArg Array.toList e2
  simpa using e4
theorem sc_is_reserved : FnScope ["value"] ["value"] (defScope s_is_reserved) := ⟨rfl, rfl, rfl, by decide +kernel, rfl, by decide +kernel, by decide +kernel⟩
theorem fn_is_reserved (T : Tx P w K mg) : ∃ fd, Fn P w K mg base 2 "is_reserved" ["value"] (spReserved) fd := by
  obtain ⟨fd, F⟩ := T.f_is_reserved
  obtain ⟨fdGis_name, Gis_name⟩ := fn_is_name (base := base) T
  have nd := sc_is_reserved.nd
  refine ⟨fd, ⟨F.ok sc_is_reserved (fun vs H Q E h => ?_) (fun cdv A outer s H vs Q E hr h => ⟨_, PSs.nox ((pss_one (ps_ret (pe_and (pe_call Gis_name.ok (hr.mono (by decide)) rfl Gis_name.m Gis_name.kp Gis_name.b .nil pass0 (pa_cons (pv 0) pa_nil)) (pe_and (pe_cmpR op_eq (pe_ix ix_str (pv 0) pe_int (fun _ _ => rfl)) pe_str (nomark _)) (pe_one (pe_cmpR op_eq (pe_ix ix_str (pv 0) (pe_un un_neg pe_int) (fun _ _ => rfl)) pe_str (nomark _)))))))), ?_⟩), F.bindsN fun _ _ _ _ _ _ us hl => match us, hl with | [_], _ => rfl, F.kp, T.m_is_reserved⟩⟩
  · obtain ⟨_, h, _⟩ := h
    obtain ⟨z, rfl, hz, rfl⟩ := h
    rfl
  · obtain ⟨Pz, h, k⟩ := h
    obtain ⟨z, rfl, hz, rfl⟩ := h
    obtain ⟨c, r, e, hc, h95, h20, h1, hall⟩ := nameOk_ok hz
    refine s_ret (v := .bl false) (ev_andV (a := true) (b := false) (ev_call (ea_cons (ev_var rfl) ea_nil) (spv fun _ _ => ⟨z, rfl, hz, rfl⟩)) fun _ => ev_andV (a := false) (b := false) ?_ fun q => nomatch q) fun H1 e1 => k _ H1 e1 rfl
    exact ev_op (ev_op (ev_var rfl) ev_c (rv_ixS (by omega) (at0 e))) ev_c (rv_is (rv_eq rfl) (by rw [sign_ne h95]))

end
end EC
end
section
set_option Elab.async false
set_option linter.all false
set_option maxRecDepth 100000
set_option maxHeartbeats 2000000
namespace EC
open PySem PySem.Spec PyProof.Rows L2 Evl
section
variable {P : Program} {w : World} {K : PySem.W.Frag} {mg : Str → Option Value} {base : Heap}
/-- numbers as values -/
abbrev vN (n : Nat) : V := .int (n : Int)
theorem InFlag.of {n : Nat} (h : lt40 n) : InFlag (n : Int) := by
  have h : n < 2 ^ 40 := h
  have e : (2 : Int) ^ 40 = ((2 ^ 40 : Nat) : Int) := by decide
  exact ⟨by omega, by omega⟩
def spNeedFlag (K : PySem.W.Frag) : Sp := mkSp fun vs H P => ∃ (a : Addr) (is : List Int), vs = [.ref a] ∧ SqT K H a (is.map V.int) ∧ (∀ i ∈ is, InFlag i) ∧ P = IsV .non
theorem sc_need_flag_values : FnScope ["numbers", "number"] ["numbers"] (defScope s_need_flag_values) := ⟨rfl, rfl, rfl, by decide +kernel, rfl, by decide +kernel, by decide +kernel⟩
theorem fn_need_flag_values (T : Tx P w K mg) : ∃ fd, Fn P w K mg base 3 "need_flag_values" ["numbers"] (spNeedFlag K) fd := by
  obtain ⟨fd, F⟩ := T.f_need_flag_values
  obtain ⟨fdGis_flag_value, Gis_flag_value⟩ := fn_is_flag_value (base := base) T
  have nd := sc_need_flag_values.nd
  refine ⟨fd, ⟨F.ok sc_need_flag_values (fun vs H Q E h => ?_) (fun cdv A outer s H vs Q E hr h => ⟨_, PSs.nox ((pss_one (ps_for PassesOwn.never rfl (piK_tup (K := K) (pv 0)) (pg_name (i := 1) nd rfl (Or.inl rfl)) (pss_one (ps_if (pt_not (pt_val (pe_call Gis_flag_value.ok (hr.mono (by decide)) rfl Gis_flag_value.m Gis_flag_value.kp Gis_flag_value.b .nil pass0 (pa_cons (pv 1) pa_nil)))) (pss_one ps_never) pss_nil))))), ?_⟩), F.bindsN fun _ _ _ _ _ _ us hl => match us, hl with | [_], _ => rfl, F.kp, T.m_need_flag_values⟩⟩
  · obtain ⟨_, h, _⟩ := h
    obtain ⟨a, is, rfl, hs, hi, rfl⟩ := h
    rfl
  · obtain ⟨Pz, h, k⟩ := h
    obtain ⟨a, is, rfl, hs, hi, rfl⟩ := h
    refine s_forW walk_tup (fun _ σ H1 => Ex H H1 ∧ ∃ o, σ = [some (.ref a), o]) (evi_tup (ev_var rfl) hs) (fun H1 e => ⟨e, _, rfl⟩) (fun _ _ H1 _ e => ex_t e.1 hs) (fun i x σ1 H1 H2 hlt e y => ?_) fun σ1 H1 e => k _ H1 e.1 rfl
    obtain ⟨rfl, hx⟩ := y
    obtain ⟨e, o, rfl⟩ := e
    obtain ⟨j, hj, rfl⟩ := List.mem_map.mp (List.mem_of_getElem? hx)
    refine g_name ?_
    exact s_when (b := false) (et_not (a := true) (et_B (ev_call (ea_cons (ev_var rfl) ea_nil) (spv fun _ _ => ⟨j, rfl, hi j hj, rfl⟩)))) (fun z => nomatch z) fun _ H3 e3 => ⟨e.trans e3, _, rfl⟩
/-- the bits of a number, as values -/
def bitsV (n : Nat) : List V := (pcs n).map fun i => vN (2 ^ i)
theorem bitsV_given (n : Nat) : bitsV n = given 40 n.testBit (fun i => vN (2 ^ i)) := rfl
def bl (n : Nat) : Nat := Builtin.Int.intBits (n : Int)
theorem bl_lt {n i : Nat} (h : bl n ≤ i) : n.testBit i = false := by
  unfold bl Builtin.Int.intBits at h
  by_cases h0 : n = 0
  · subst h0
    exact Nat.zero_testBit i
  · have e : ((n : Int) == 0) = false := beq_eq_false_iff_ne.mpr (by omega)
    rw [e] at h
    simp only [Bool.false_eq_true, if_false, Int.natAbs_natCast] at h
    refine Nat.testBit_lt_two_pow (Nat.lt_of_lt_of_le (Nat.lt_log2_self (n := n)) (Nat.pow_le_pow_right (by decide) h))
theorem bl_le {n : Nat} (h : lt40 n) : bl n ≤ 40 := by
  unfold bl Builtin.Int.intBits
  by_cases h0 : n = 0
  · subst h0
    decide
  · have e : ((n : Int) == 0) = false := beq_eq_false_iff_ne.mpr (by omega)
    rw [e]
    simp only [Bool.false_eq_true, if_false, Int.natAbs_natCast]
    exact (Nat.log2_lt h0).mpr h
theorem bitsV_bl {n : Nat} (h : lt40 n) : given (bl n) n.testBit (fun i => vN (2 ^ i)) = bitsV n := given_ext (bl_le h) fun i a _ => bl_lt a
theorem bit_test (n i : Nat) : decide (V.int (Builtin.bitAnd ((n : Int) / 2 ^ ((0 : Int) + (i : Int)).toNat) 1) = V.int 1) = n.testBit i := by
  have e1 : ((0 : Int) + (i : Int)).toNat = i := by omega
  have e2 : (n : Int) / 2 ^ i = ((n / 2 ^ i : Nat) : Int) := by
    rw [Int.natCast_ediv, Int.natCast_pow]
    rfl
  have e3 : Builtin.bitAnd ((n / 2 ^ i : Nat) : Int) 1 = ((n / 2 ^ i &&& 1 : Nat) : Int) := bA _ 1
  rw [e1, e2, e3, Nat.and_one_is_mod]
  have e4 := Nat.testBit_eq_decide_div_mod_eq (x := n) (i := i)
  rw [e4]
  refine decide_eq_decide.mpr ⟨fun q => ?_, fun q => ?_⟩
  · have := V.int.inj q
    omega
  · rw [q]
    rfl
theorem two_pow (i : Nat) : V.int (1 * 2 ^ ((0 : Int) + (i : Int)).toNat) = vN (2 ^ i) := by
  have e1 : ((0 : Int) + (i : Int)).toNat = i := by omega
  rw [e1, Int.one_mul]
  show V.int ((2 : Int) ^ i) = V.int ((2 ^ i : Nat) : Int)
  rw [Int.natCast_pow]
  rfl
def spBits : Sp := mkSp fun vs H P => ∃ n : Nat, vs = [vN n] ∧ lt40 n ∧ P = fun v H' => ∃ p, v = .ref p ∧ H' p = some (.tup (bitsV n))
theorem ev_bits {to : TE} {σ : L2.St} {H : Hp} {i : Int} (h : Ev to σ H (.int i)) : Ev (tBits to) σ H (.int (Builtin.Int.intBits i : Nat)) := fun H1 e Q q => h H1 e _ fun H2 e2 => ⟨i, rfl, q H2 e2⟩
theorem EvU.gv {te : TE} {σ : L2.St} {H : Hp} {xs : List V} {P : V → Hp → Prop} (h : EvU te σ H xs) (hp : ∀ p H1, H1 p = some (.tup xs) → P (.ref p) H1) : Gv te σ H P := fun H1 e Q q => h H1 e Q fun p H2 hn e2 h2 => q _ H2 e2 (hp p H2 h2)
theorem sc_bits_of : FnScope ["number", "place"] ["number"] (defScope s_bits_of) := ⟨rfl, rfl, rfl, by decide +kernel, rfl, by decide +kernel, by decide +kernel⟩
theorem fn_bits_of (T : Tx P w K mg) : ∃ fd, Fn P w K mg base 4 "bits_of" ["number"] (spBits) fd := by
  obtain ⟨fd, F⟩ := T.f_bits_of
  obtain ⟨fdGneed_flag_values, Gneed_flag_values⟩ := fn_need_flag_values (base := base) T
  have nd := sc_bits_of.nd
  refine ⟨fd, ⟨F.ok sc_bits_of (fun vs H Q E h => ?_) (fun cdv A outer s H vs Q E hr h => ⟨_, PSs.nox ((pss_cons (ps_expr (pe_call Gneed_flag_values.ok (hr.mono (by decide)) rfl Gneed_flag_values.m Gneed_flag_values.kp Gneed_flag_values.b .nil pass0 (pa_cons (pe_tup (pa_cons (pv 0) pa_nil)) pa_nil)))
  (pss_one (ps_ret (pe_callTy (callK_tuple (K := K)) (by rfl) T.b_tuple bo_tuple (pa_cons (pe_lc (own := [("place", 1)]) rfl nd (pi_range1 (by rfl) T.b_range (pa_cons (pe_bits (pv 0)) pa_nil)) (blkOk_by (N := ["number", "place"]) (sc := defScope s_bits_of) (by decide +kernel)) (fun _ _ _ _ _ => (pg_name (i := 1) nd rfl (Or.inl rfl))) (fun _ _ _ _ _ => (pts_one (pt_cmpR op_eq (pe_op op_and (pe_op op_shr (pv 0) (pv 1)) pe_int) pe_int (nomark _)))) (fun _ _ _ _ _ => (pe_op op_shl pe_int (pv 1)))) pa_nil)))))), ?_⟩), F.bindsN fun _ _ _ _ _ _ us hl => match us, hl with | [_], _ => rfl, F.kp, T.m_bits_of⟩⟩
  · obtain ⟨_, h, _⟩ := h
    obtain ⟨n, rfl, hn, rfl⟩ := h
    rfl
  · obtain ⟨Pz, h, k⟩ := h
    obtain ⟨n, rfl, hn, rfl⟩ := h
    refine q_drop (ev_call1U (eu_tup (ea_cons (ev_var rfl) ea_nil) (by show 1 ≤ 100000; decide)) fun p H1 e1 hp => spv fun H2 e2 => ⟨p, [(n : Int)], rfl, st_of (e2 p _ hp), fun i hi => by
      rw [List.mem_singleton.mp hi]
      exact InFlag.of hn, rfl⟩) fun H1 e1 => ?_
    refine s_retG (EvU.gv (eu_tupN (el_is (el_lcW walk_range n.testBit (fun i => vN (2 ^ i)) (evi_rng1 (n := bl n) (ea_cons (ev_bits (ev_var rfl)) ea_nil) (by have := bl_le hn; omega)) (by have := bl_le hn; omega) (fun _ _ => trivial) ?_) (bitsV_bl hn))) fun p H2 h2 => ⟨p, rfl, h2⟩) fun v H2 e2 hp => k _ H2 (e1.trans e2) hp
    rintro i x H2 H3 hi e2 ⟨rfl, rfl⟩
    have hi40 := bl_le hn
    have hp : 0 ≤ (0 : Int) + (i : Int) := by omega
    refine ⟨Ex.refl _, _, fun Q q => g_name q, rfl, ?_, fun _ => ?_⟩
    · have h := ev_op (r := rEq) (z := .bl (n.testBit i)) (σ := [some (vN n), some (.int (0 + (i : Int)))]) (H := H3) (ev_op (r := rI0 fun i j => .int (Builtin.bitAnd i j)) (ev_op (r := rI (fun _ j => 0 ≤ j) fun i j => .int (i / 2 ^ j.toNat)) (ev_var (i := 0) rfl) (ev_var (i := 1) rfl) (rv_I hp)) ev_c rv_I0) ev_c (rv_is (rv_eq rfl) (by rw [bit_test]))
      exact et_test h
    · have h := ev_op (r := rI CPow fun i j => .int (i * 2 ^ j.toNat)) (z := vN (2 ^ i)) (σ := [some (vN n), some (.int (0 + (i : Int)))]) (H := H3) (ev_c (v := .int 1)) (ev_var (i := 1) rfl) (rv_is (rv_I ⟨hp, by omega, by decide⟩) (two_pow i))
      exact h
/-- what split takes -/
def takenL (n : Nat) (xs : List Nat) : List Nat := ((pcs n).map fun i => 2 ^ i).filter fun b => decide (b ∈ xs)
theorem in_vN (b : Nat) (xs : List Nat) : inV (vN b) (xs.map vN) = decide (b ∈ xs) := by
  unfold inV
  induction xs with
  | nil => rfl
  | cons x xs ih =>
    rw [List.map_cons, List.any_cons, ih]
    have e : eqV (vN x) (vN b) = decide (b = x) := by
      show decide ((x : Int) = (b : Int)) = _
      exact decide_eq_decide.mpr ⟨fun q => by omega, fun q => by omega⟩
    rw [e]
    by_cases h1 : b = x <;> by_cases h2 : b ∈ xs <;> simp [h1, h2]
theorem flat_vN (xs : List Nat) : (xs.map vN).all flatV = true := by
  rw [List.all_eq_true]
  intro v hv
  obtain ⟨x, _, rfl⟩ := List.mem_map.mp hv
  rfl
theorem given_filter {α : Type} (p : α → Bool) (g : α → V) (d : α) : ∀ l : List α, given l.length (fun i => p (l.getD i d)) (fun i => g (l.getD i d)) = (l.filter p).map g
  | [] => rfl
  | a :: l => by
    have ih := given_filter p g d l
    unfold given at ih ⊢
    rw [List.length_cons, List.range_succ_eq_map, List.filter_cons, List.filter_map, List.filter_cons]
    have e0 : (a :: l).getD 0 d = a := rfl
    have e1 : (fun i => p ((a :: l).getD i d)) ∘ Nat.succ = fun i => p (l.getD i d) := rfl
    have e2 : (fun i => g ((a :: l).getD i d)) ∘ Nat.succ = fun i => g (l.getD i d) := rfl
    rw [e0, e1]
    cases hp : p a with
    | true =>
      rw [if_pos rfl, if_pos rfl, List.map_cons, List.map_cons, List.map_map, e2, ih]
      rfl
    | false =>
      rw [if_neg (by decide), if_neg (by decide), List.map_map, e2, ih]
theorem pc_le (n : Nat) : pc n ≤ 40 := by
  unfold pc pcs
  exact Nat.le_trans (List.length_filter_le _ _) (by rw [List.length_range]; exact Nat.le_refl _)
theorem cast_sum (l : List Nat) : (l.map fun x : Nat => (x : Int)).sum = ((l.sum : Nat) : Int) := by
  induction l with
  | nil => rfl
  | cons x l ih => rw [List.map_cons, List.sum_cons, List.sum_cons, ih, Int.natCast_add]
def spSplit (K : PySem.W.Frag) : Sp := mkSp fun vs H P => ∃ (n : Nat) (a : Addr) (xs : List Nat), vs = [vN n, .ref a] ∧ lt40 n ∧ SqT K H a (xs.map vN) ∧ P = fun v H' => ∃ p t, v = .ref p ∧ H' p = some (.tup [t, .int ((n : Int) - ((takenL n xs).sum : Nat))])
theorem sc_split : FnScope ["number", "singles", "bits", "taken", "bit"] ["number", "singles"] (defScope s_split) := ⟨rfl, rfl, rfl, by decide +kernel, rfl, by decide +kernel, by decide +kernel⟩
theorem fn_split (T : Tx P w K mg) : ∃ fd, Fn P w K mg base 5 "split" ["number", "singles"] (spSplit K) fd := by
  obtain ⟨fd, F⟩ := T.f_split
  obtain ⟨fdGbits_of, Gbits_of⟩ := fn_bits_of (base := base) T
  have nd := sc_split.nd
  refine ⟨fd, ⟨F.ok sc_split (fun vs H Q E h => ?_) (fun cdv A outer s H vs Q E hr h => ⟨_, PSs.nox ((pss_cons (ps_set (i := 2) nd rfl (Or.inl rfl) (pe_call Gbits_of.ok (hr.mono (by decide)) rfl Gbits_of.m Gbits_of.kp Gbits_of.b .nil pass0 (pa_cons (pv 0) pa_nil)))
  (pss_cons (ps_set (i := 3) nd rfl (Or.inl rfl) (pe_callTy (callK_tuple (K := K)) (by rfl) T.b_tuple bo_tuple (pa_cons (pe_lc (own := [("bit", 4)]) rfl nd (piK_tup (K := K) (pv 2)) (blkOk_by (N := ["number", "singles", "bits", "taken", "bit"]) (sc := defScope s_split) (by decide +kernel)) (fun _ _ _ _ _ => (pg_name (i := 4) nd rfl (Or.inl rfl))) (fun _ _ _ _ _ => (pts_one (pt_cmpR (opK_in (K := K)) (pv 4) (pv 1) (by rfl)))) (fun _ _ _ _ _ => (pv 4))) pa_nil)))
  (pss_one (ps_ret (pe_tup (pa_cons (pv 3) (pa_cons (pe_op op_sub (pv 0) (pe_callB (crK_sum (K := K) rfl) (by rfl) T.b_sum bo_sum (pa_cons (pe_callTy (callK_list (K := K)) (by rfl) T.b_list bo_list (pa_cons (pv 3) pa_nil)) pa_nil))) pa_nil)))))))), ?_⟩), F.bindsN fun _ _ _ _ _ _ us hl => match us, hl with | [_, _], _ => rfl, F.kp, T.m_split⟩⟩
  · obtain ⟨_, h, _⟩ := h
    obtain ⟨n, a, xs, rfl, hn, hs, rfl⟩ := h
    rfl
  · obtain ⟨Pz, h, k⟩ := h
    obtain ⟨n, a, xs, rfl, hn, hs, rfl⟩ := h
    refine q_asgG (gv_call (ea_cons (ev_var rfl) ea_nil) (spg fun _ _ => ⟨n, rfl, hn, rfl⟩)) fun v H1 e1 hv => ?_
    obtain ⟨p, rfl, hp⟩ := hv
    have eb : bitsV n = ((pcs n).map fun i => 2 ^ i).map vN := by rw [List.map_map]; rfl
    have hlen : (bitsV n).length ≤ 40000 := by
      have := pc_le n
      unfold pc at this
      unfold bitsV
      rw [List.length_map]
      omega
    have hln : (bitsV n).length = ((pcs n).map fun i => 2 ^ i).length := by rw [eb, List.length_map]
    refine q_asgU (eu_tupN (xs := (takenL n xs).map vN) (el_is (el_lcW walk_tup (fun i => decide ((((pcs n).map fun i => 2 ^ i).getD i 0) ∈ xs)) (fun i => vN (((pcs n).map fun i => 2 ^ i).getD i 0)) (evi_tup (ev_var rfl) (st_of hp)) hlen (fun H2 e2 => st_of (e2 p _ hp)) ?_)
      (by rw [hln]; exact given_filter (fun b => decide (b ∈ xs)) vN 0 _))) fun t H2 ht0 e2 ht => ?_
    · rintro i x H2 H3 hi e2 ⟨rfl, hx⟩
      rw [eb, List.getElem?_map] at hx
      obtain ⟨b, hb, rfl⟩ := Option.map_eq_some_iff.mp hx
      have ed : ((pcs n).map fun i => 2 ^ i).getD i 0 = b := by
        rw [List.getD_eq_getElem?_getD, hb]
        rfl
      refine ⟨Ex.refl _, _, fun Q q => g_name q, rfl, ?_, fun _ => ?_⟩
      · rw [ed]
        exact et_test (ev_op (ev_var rfl) (ev_var rfl) (rv_is (rv_isT (ex_t (e1.trans e2) hs) rfl (flat_vN xs)) (by rw [in_vN])))
      · rw [ed]
        exact ev_var rfl
    have es : ((takenL n xs).map vN) = ((takenL n xs).map fun x : Nat => (x : Int)).map V.int := by rw [List.map_map]; rfl
    refine s_retG (EvU.gv (eu_tup (ea_cons (ev_var rfl) (ea_cons (ev_op (ev_var rfl) (ev_sumN (ns := (takenL n xs).map fun x : Nat => (x : Int)) (el_listT (ev_var rfl) (st_of (by rw [ht, es])))) rv_I0) ea_nil)) (by show 2 ≤ 100000; decide)) fun p2 H3 h3 => ⟨p2, .ref t, rfl, by rw [h3, cast_sum]⟩) fun v H3 e3 hv => k _ H3 ((e1.trans e2).trans e3) hv
theorem str_and {σ : L2.St} {H : Hp} {ta tb : TE} {u v : V} (h1 : Ev ta σ H u) (h2 : Ev tb σ H v) : EvU (tTup (tCons ta (tCons tb tNil))) σ H [u, v] := eu_tup (ea_cons h1 (ea_cons h2 ea_nil)) (by show 2 ≤ 100000; decide)
/-- ('member', i) -/
def IsMem (i : Int) : V → Hp → Prop := fun v H' => ∃ p, v = .ref p ∧ H' p = some (.tup [.str "member", .int i])
def spKept : Sp := mkSp fun vs H P => ∃ i m : Int, vs = [.int i, .int m] ∧ InFlag i ∧ P = IsMem i
theorem sc_kept_reading : FnScope ["value", "mask", "together"] ["value", "mask"] (defScope s_kept_reading) := ⟨rfl, rfl, rfl, by decide +kernel, rfl, by decide +kernel, by decide +kernel⟩
theorem fn_kept_reading (T : Tx P w K mg) : ∃ fd, Fn P w K mg base 1 "kept_reading" ["value", "mask"] (spKept) fd := by
  obtain ⟨fd, F⟩ := T.f_kept_reading
  have nd := sc_kept_reading.nd
  refine ⟨fd, ⟨F.ok sc_kept_reading (fun vs H Q E h => ?_) (fun cdv A outer s H vs Q E hr h => ⟨_, PSs.nox ((pss_cons (ps_if (pt_chain op_le op_lt pe_int (pv 0) (pe_op op_shl pe_int (pe_gI rfl T.i_MAX_BITS))) (pss_one (ps_ret (pe_tup (pa_cons pe_str (pa_cons (pv 0) pa_nil))))) pss_nil)
  (pss_cons (ps_if (PW.pt (pw_or (pt_cmpR op_ge (pv 0) pe_int (nomark _)) (pw_or1 (pt_cmpR op_lt (pv 0) (pe_op op_sub pe_int (pe_op op_shl pe_int (pe_gI rfl T.i_MAX_BITS))) (nomark _))))) (pss_one (ps_ret pe_non)) pss_nil)
  (pss_cons (ps_set (i := 2) nd rfl (Or.inl rfl) (pe_op op_or (pv 1) (pe_un un_inv (pv 0))))
  (pss_one (ps_ret (pe_tup (pa_cons pe_str (pa_cons (pe_op op_add (pv 0) (pe_op op_shl pe_int (pe_bits (pv 2)))) pa_nil))))))))), ?_⟩), F.bindsN fun _ _ _ _ _ _ us hl => match us, hl with | [_, _], _ => rfl, F.kp, T.m_kept_reading⟩⟩
  · obtain ⟨_, h, _⟩ := h
    obtain ⟨i, m, rfl, hi, rfl⟩ := h
    rfl
  · obtain ⟨Pz, h, k⟩ := h
    obtain ⟨i, m, rfl, hi, rfl⟩ := h
    have h1 : decide ((0 : Int) ≤ i) = true := decide_eq_true hi.1
    have h2 : decide (i < 1 * 2 ^ Int.toNat 40) = true := decide_eq_true hi.2
    refine q_when (b := true) (et_test (ev_chain (k := true) ev_c (ev_var rfl) (rv_is rv_I0 (by rw [h1])) (fun _ => ev_op ev_c ev_c (rv_I ⟨by decide, by decide, by decide⟩)) (fun _ => rv_is rv_I0 (by rw [h2])) (fun z => nomatch z))) (fun _ H1 e1 => ?_) (fun z => nomatch z)
    exact s_retG (EvU.gv (str_and ev_c (ev_var rfl)) fun p H2 h2 => ⟨p, rfl, h2⟩) fun v H2 e2 hv => k _ H2 (e1.trans e2) hv
def spReading : Sp := mkSp fun vs H P => ∃ (n m : Nat) (b : Str), vs = [vN n, vN m, .str b] ∧ lt40 n ∧ (n ||| m = m ∨ b = "keep") ∧ P = IsMem (n : Int)
theorem eq_nat (a b : Nat) : decide (vN a = vN b) = decide (a = b) := decide_eq_decide.mpr ⟨fun q => by have := V.int.inj q; omega, fun q => by rw [q]⟩
theorem sc_reading : FnScope ["value", "mask", "boundary"] ["value", "mask", "boundary"] (defScope s_reading) := ⟨rfl, rfl, rfl, by decide +kernel, rfl, by decide +kernel, by decide +kernel⟩
theorem fn_reading (T : Tx P w K mg) : ∃ fd, Fn P w K mg base 2 "reading" ["value", "mask", "boundary"] (spReading) fd := by
  obtain ⟨fd, F⟩ := T.f_reading
  obtain ⟨fdGkept_reading, Gkept_reading⟩ := fn_kept_reading (base := base) T
  have nd := sc_reading.nd
  refine ⟨fd, ⟨F.ok sc_reading (fun vs H Q E h => ?_) (fun cdv A outer s H vs Q E hr h => ⟨_, PSs.nox ((pss_cons (ps_if (PW.pt (pw_and (pt_cmpR op_ge (pv 0) pe_int (nomark _)) (pw_and1 (pt_cmpR op_eq (pe_op op_or (pv 0) (pv 1)) (pv 1) (nomark _))))) (pss_one (ps_ret (pe_tup (pa_cons pe_str (pa_cons (pv 0) pa_nil))))) pss_nil)
  (pss_cons (ps_if (PW.pt (pw_and (pt_cmpR op_lt (pv 0) pe_int (nomark _)) (pw_and1 (pt_cmpR op_eq (pe_op op_or (pe_un un_inv (pv 0)) (pv 1)) (pv 1) (nomark _))))) (pss_one (ps_ret (pe_tup (pa_cons pe_str (pa_cons (pe_op op_and (pv 1) (pv 0)) pa_nil))))) pss_nil)
  (pss_cons (ps_if (pt_cmpR op_eq (pv 2) pe_str (nomark _)) (pss_one (ps_ret (pe_tup (pa_cons pe_str (pa_cons (pe_op op_and (pv 1) (pv 0)) pa_nil))))) pss_nil)
  (pss_cons (ps_if (pt_cmpR op_eq (pv 2) pe_str (nomark _)) (pss_one (ps_ret (pe_tup (pa_cons pe_str (pa_cons (pv 0) pa_nil))))) pss_nil)
  (pss_one (ps_ret (pe_ifExp (pt_cmpR op_eq (pv 2) pe_str (nomark _)) (pe_call Gkept_reading.ok (hr.mono (by decide)) rfl Gkept_reading.m Gkept_reading.kp Gkept_reading.b .nil pass0 (pa_cons (pv 0) (pa_cons (pv 1) pa_nil))) pe_non)))))))), ?_⟩), F.bindsN fun _ _ _ _ _ _ us hl => match us, hl with | [_, _, _], _ => rfl, F.kp, T.m_reading⟩⟩
  · obtain ⟨_, h, _⟩ := h
    obtain ⟨n, m, b, rfl, hn, hor, rfl⟩ := h
    rfl
  · obtain ⟨Pz, h, k⟩ := h
    obtain ⟨n, m, b, rfl, hn, hor, rfl⟩ := h
    have h1 : decide ((0 : Int) ≤ (n : Int)) = true := decide_eq_true (by omega)
    have h2 : decide ((n : Int) < 0) = false := decide_eq_false (by omega)
    refine q_when (b := decide (n ||| m = m)) (et_and (a := true) (et_test (ev_op (ev_var rfl) ev_c (rv_is rv_I0 (by rw [h1])))) fun _ => et_test (ev_op (ev_op (ev_var rfl) (ev_var rfl) rv_I0) (ev_var rfl) (rv_is (rv_eq rfl) (by rw [bO]; exact congrArg V.bl (eq_nat _ _))))) (fun _ H1 e1 => ?_) (fun hb H1 e1 => ?_)
    · exact s_retG (EvU.gv (str_and ev_c (ev_var rfl)) fun p H2 h2 => ⟨p, rfl, h2⟩) fun v H2 e2 hv => k _ H2 (e1.trans e2) hv
    have hne : ¬ (n ||| m = m) := of_decide_eq_false hb
    obtain rfl : b = "keep" := hor.resolve_left hne
    refine q_when (b := false) (et_and (a := false) (b := false) (et_test (ev_op (ev_var rfl) ev_c (rv_is rv_I0 (by rw [h2])))) fun z => nomatch z) (fun z => nomatch z) fun _ H2 e2 => ?_
    refine q_when (b := false) (et_test (ev_op (ev_var rfl) ev_c (rv_is (rv_eq rfl) (by decide +kernel)))) (fun z => nomatch z) fun _ H3 e3 => ?_
    refine q_when (b := false) (et_test (ev_op (ev_var rfl) ev_c (rv_is (rv_eq rfl) (by decide +kernel)))) (fun z => nomatch z) fun _ H4 e4 => ?_
    refine s_retG (gv_if (b := true) (et_test (ev_op (ev_var rfl) ev_c (rv_is (rv_eq rfl) (by decide +kernel)))) (fun _ => gv_call (ea_cons (ev_var rfl) (ea_cons (ev_var rfl) ea_nil)) (spg fun _ _ => ⟨(n : Int), (m : Int), rfl, InFlag.of hn, rfl⟩)) (fun z => nomatch z)) fun v H5 e5 hv => k _ H5 ((((e1.trans e2).trans e3).trans e4).trans e5) hv

end
end EC
end
section
set_option Elab.async false
set_option linter.all false
set_option maxRecDepth 100000
set_option maxHeartbeats 2000000
/-! B3: records, kinds, members in the heap; comprehensions over rows. -/
namespace EC
open PySem PySem.Spec PyProof.Rows L2 Evl
/-- a comprehension within another that reads nothing of what is around -/
theorem blkOk_any {N : List Str} {sc scope : Scope} {own : List (Str × Nat)} (h : (blkC N scope scope own && scope.names.all fun y => match y.2 with | .free => false | _ => true) = true) : BlkOk N sc scope own := by
  rw [Bool.and_eq_true] at h
  have b := blkOk_by h.1
  refine ⟨b.kind, b.uniq, b.ix, fun y hy e => ?_, b.own⟩
  have q := List.all_eq_true.mp h.2 y hy
  simp only [e] at q
  cases q
abbrev Row : Type := Str × Nat
/-- tuples (name, value) -/
def RowsAt (H : Hp) (xs : List V) (rows : List Row) : Prop := xs.length = rows.length ∧ ∀ (i : Nat) (r : Row), rows[i]? = some r → ∃ a, xs[i]? = some (.ref a) ∧ H a = some (.tup [.str r.1, vN r.2])
theorem RowsAt.mono {H H' : Hp} {xs : List V} {rows : List Row} (e : Ex H H') (h : RowsAt H xs rows) : RowsAt H' xs rows := ⟨h.1, fun i r hr => let ⟨a, h1, h2⟩ := h.2 i r hr; ⟨a, h1, e a _ h2⟩⟩
theorem RowsAt.nil (H : Hp) : RowsAt H [] [] := ⟨rfl, fun i r h => by cases h⟩
theorem RowsAt.at {H : Hp} {xs : List V} {rows : List Row} (h : RowsAt H xs rows) {i : Nat} {x : V} (hx : xs[i]? = some x) : ∃ r a, rows[i]? = some r ∧ x = .ref a ∧ H a = some (.tup [.str r.1, vN r.2]) := by
  have hi := (List.getElem?_eq_some_iff.mp hx).1
  rw [h.1] at hi
  obtain ⟨a, h1, h2⟩ := h.2 i _ (List.getElem?_eq_getElem hi)
  rw [hx] at h1
  cases h1
  exact ⟨_, a, List.getElem?_eq_getElem hi, rfl, h2⟩
theorem RowsAt.snoc {H : Hp} {xs : List V} {rows : List Row} (h : RowsAt H xs rows) {a : Addr} {r : Row} (ha : H a = some (.tup [.str r.1, vN r.2])) : RowsAt H (xs ++ [.ref a]) (rows ++ [r]) := by
  refine ⟨by rw [List.length_append, List.length_append, h.1]; rfl, fun i q hq => ?_⟩
  rcases Nat.lt_or_ge i rows.length with hlt | hge
  · rw [List.getElem?_append_left hlt] at hq
    obtain ⟨b, h1, h2⟩ := h.2 i q hq
    exact ⟨b, by rw [List.getElem?_append_left (by rw [h.1]; exact hlt)]; exact h1, h2⟩
  · rw [List.getElem?_append_right hge] at hq
    have e0 : i - rows.length = 0 := by
      have := (List.getElem?_eq_some_iff.mp hq).1
      simp at this
      omega
    rw [e0] at hq
    cases hq
    refine ⟨a, ?_, ha⟩
    rw [List.getElem?_append_right (by rw [h.1]; exact hge), h.1, e0]
    rfl
/-- the first name of a value -/
def firstName (rows : List Row) (v : Nat) : Str := ((rows.find? fun r => r.2 == v).map (·.1)).getD (Str.ofString "")
def firstsOf (rows : List Row) : List (Key × V) := rows.map fun r => (Sum.inr r.1, .str (firstName rows r.2))
abbrev recFs (t d a b c e : Addr) : List (Str × V) := [("own_rows", .ref t), ("own_firsts", .ref d), ("own_attributes", .ref a), ("own_methods", .ref b), ("own_rule", .ref c), ("own_missing", .ref e)]
structure RecIn (K : PySem.W.Frag) (H : Hp) (r dr t d a b c e : Addr) (xs : List V) (rows : List Row) : Prop where
  ins : H r = some (.ins (C_Record K) dr (recFs t d a b c e))
  tup : SqT K H t xs
  rws : RowsAt H xs rows
  fst : H d = some (.dK (firstsOf rows))
  atr : H a = some (.dK [])
  mth : H b = some (.dK [])
  rul : SqT K H c []
  mis : SqT K H e []
def RecAt (K : PySem.W.Frag) (H : Hp) (r : Addr) (rows : List Row) : Prop := ∃ dr t d a b c e xs, RecIn K H r dr t d a b c e xs rows
theorem RecIn.mono {K : PySem.W.Frag} {H H' : Hp} {r dr t d a b c e : Addr} {xs : List V} {rows : List Row} (x : Ex H H') (h : RecIn K H r dr t d a b c e xs rows) : RecIn K H' r dr t d a b c e xs rows :=
  ⟨x _ _ h.ins, ex_t x h.tup, h.rws.mono x, x _ _ h.fst, x _ _ h.atr, x _ _ h.mth, ex_t x h.rul, ex_t x h.mis⟩
theorem RecAt.mono {K : PySem.W.Frag} {H H' : Hp} {r : Addr} {rows : List Row} (x : Ex H H') (h : RecAt K H r rows) : RecAt K H' r rows := by
  obtain ⟨dr, t, d, a, b, c, e, xs, h⟩ := h
  exact ⟨dr, t, d, a, b, c, e, xs, h.mono x⟩
abbrev kindFs (nm : V) (bs : V) (bd : Str) (st ln : V) (r : Addr) : List (Str × V) := [("own_name", nm), ("own_family", .str "flag"), ("own_bases", bs), ("own_boundary", .str bd), ("own_start", st), ("own_line", ln), ("own_record", .ref r)]
structure KindIn (K : PySem.W.Frag) (H : Hp) (κ dx r : Addr) (nm bs st ln : V) (rows : List Row) (bd : Str) : Prop where
  ins : H κ = some (.ins (C_Kind K) dx (kindFs nm bs bd st ln r))
  rec_ : RecAt K H r rows
def KindAt (K : PySem.W.Frag) (H : Hp) (κ : Addr) (rows : List Row) (bd : Str) : Prop := ∃ dx r nm bs st ln, KindIn K H κ dx r nm bs st ln rows bd
theorem KindIn.mono {K : PySem.W.Frag} {H H' : Hp} {κ dx r : Addr} {nm bs st ln : V} {rows : List Row} {bd : Str} (x : Ex H H') (h : KindIn K H κ dx r nm bs st ln rows bd) : KindIn K H' κ dx r nm bs st ln rows bd := ⟨x _ _ h.ins, h.rec_.mono x⟩
theorem KindAt.mono {K : PySem.W.Frag} {H H' : Hp} {κ : Addr} {rows : List Row} {bd : Str} (x : Ex H H') (h : KindAt K H κ rows bd) : KindAt K H' κ rows bd := by
  obtain ⟨dx, r, nm, bs, st, ln, h⟩ := h
  exact ⟨dx, r, nm, bs, st, ln, h.mono x⟩
abbrev memFs (κ : Addr) (v : Nat) (a b c : V) : List (Str × V) := [("own_kind", .ref κ), ("own_value", vN v), ("own_name", a), ("own_aliases", b), ("own_place", c)]
def Mem (K : PySem.W.Frag) (H : Hp) (p κ : Addr) (v : Nat) : Prop := ∃ dx a b c, H p = some (.ins (C_FlagMember K) dx (memFs κ v a b c))
theorem Mem.mono {K : PySem.W.Frag} {H H' : Hp} {p κ : Addr} {v : Nat} (x : Ex H H') (h : Mem K H p κ v) : Mem K H' p κ v := by
  obtain ⟨dx, a, b, c, h⟩ := h
  exact ⟨dx, a, b, c, x _ _ h⟩
/-- rows that a flag may have -/
structure Wf (rows : List Row) : Prop where
  small : rows.length ≤ 60
  vals : ∀ r ∈ rows, lt40 r.2
  nd : (rows.map (·.1)).Nodup
  nm : ∀ r ∈ rows, nameOk r.1 = true ∧ PyData.strOk r.1 = true
section
variable {K : PySem.W.Frag} {σ : L2.St} {H H' : Hp} {te tl : TE} {tt : TT}
theorem given_getD {α : Type} [Inhabited α] (l : List α) (p : α → Bool) (g : α → V) (n : Nat) (hn : n = l.length) : given n (fun i => p (l.getD i default)) (fun i => g (l.getD i default)) = (l.filter p).map g := by
  subst hn
  exact given_filter p g default l
theorem getD_of {α : Type} {d : α} {l : List α} {i : Nat} {a : α} (h : l[i]? = some a) : l.getD i d = a := by
  rw [List.getD_eq_getElem?_getD, h]
  rfl
/-- [.. for a, b in rows if ..], the rows a tuple -/
theorem el_rows {t : Addr} {xs : List V} {rows : List Row} {i j : Nat} {vs : List Nat} (f : Row → Bool) (g : Row → V) (h : Ev tl σ H (.ref t)) (ht : SqT K H t xs) (hr : RowsAt H xs rows) (hl : rows.length ≤ 60)
    (hw : ∀ x y : V, wipe (((wipe σ vs).set i (some x)).set j (some y)) vs = wipe σ vs)
    (hs : ∀ r H1, r ∈ rows → Ex H H1 → EvT tt (((wipe σ vs).set i (some (.str r.1))).set j (some (vN r.2))) H1 (f r) ∧ (f r = true → Ev te (((wipe σ vs).set i (some (.str r.1))).set j (some (vN r.2))) H1 (g r))) :
    EvL (tLc (iTup K tl) (gTup K 2 (gCons (gName i) (gCons (gName j) gNil))) tt te vs) σ H ((rows.filter f).map g) := by
  refine el_is (el_lcW walk_tup (fun i => f (rows.getD i default)) (fun i => g (rows.getD i default)) (evi_tup h ht) (by rw [hr.1]; omega) (fun H1 e => ex_t e ht) ?_) (by exact given_getD rows f g _ hr.1)
  rintro m x H2 H3 hm e2 ⟨rfl, hx⟩
  obtain ⟨r, a, h1, rfl, h2⟩ := hr.at hx
  rw [getD_of h1]
  obtain ⟨q1, q2⟩ := hs r H3 (List.mem_of_getElem? h1) e2
  exact ⟨Ex.refl _, _, fun Q q => g_two (st_of (e2 a _ h2)) q, hw _ _, q1, q2⟩
/-- .. over a new tuple -/
theorem el_lcU {xs : List V} {g : TG} {vs : List Nat} (f : Nat → Bool) (v : Nat → V) (h : EvU tl σ H xs) (hn : xs.length ≤ 40000)
    (hs : ∀ i x H1, Ex H H1 → xs[i]? = some x → ∃ σ2, (∀ Q : L2.St → Hp → Prop, Q σ2 H1 → g x (wipe σ vs) H1 Q) ∧ wipe σ2 vs = wipe σ vs ∧ EvT tt σ2 H1 (f i) ∧ (f i = true → Ev te σ2 H1 (v i))) :
    EvL (tLc (iTup K tl) g tt te vs) σ H (given xs.length f v) := fun H0 e Q q => h H0 e _ fun a H1 ha e1 hx => ⟨a, rfl, ⟨xs, st_of hx⟩, fun Dl hD =>
  lc_it walk_tup (Cw H1 f v Dl) ⟨hD, Ex.new hD, upd_same⟩ (fun i H' _ p => st_of (p.2.1 a _ hx)) (fun i x H2 H3 hi p y => by
    obtain ⟨rfl, hxi⟩ := y
    obtain ⟨σ2, hg, hw, ht, he⟩ := hs i x H3 ((e.trans e1).trans p.2.1) hxi
    exact hg _ ⟨hw, cw_turn2 p (by omega) ht he⟩)
  fun H2 p => q Dl H2 (fresh_back e1 p.1) (e1.trans p.2.1) p.2.2⟩
theorem el_rowsU {xs : List V} {rows : List Row} {i j : Nat} {vs : List Nat} (f : Row → Bool) (g : Row → V) (h : EvU tl σ H xs) (hr : RowsAt H xs rows) (hl : rows.length ≤ 60)
    (hw : ∀ x y : V, wipe (((wipe σ vs).set i (some x)).set j (some y)) vs = wipe σ vs)
    (hs : ∀ r H1, r ∈ rows → Ex H H1 → EvT tt (((wipe σ vs).set i (some (.str r.1))).set j (some (vN r.2))) H1 (f r) ∧ (f r = true → Ev te (((wipe σ vs).set i (some (.str r.1))).set j (some (vN r.2))) H1 (g r))) :
    EvL (tLc (iTup K tl) (gTup K 2 (gCons (gName i) (gCons (gName j) gNil))) tt te vs) σ H ((rows.filter f).map g) := by
  refine el_is (el_lcU (fun i => f (rows.getD i default)) (fun i => g (rows.getD i default)) h (by rw [hr.1]; omega) ?_) (by exact given_getD rows f g _ hr.1)
  intro m x H2 e2 hx
  obtain ⟨r, a, h1, rfl, h2⟩ := hr.at hx
  rw [getD_of h1]
  obtain ⟨q1, q2⟩ := hs r H2 (List.mem_of_getElem? h1) e2
  exact ⟨_, fun Q q => g_two (st_of (e2 a _ h2)) q, hw _ _, q1, q2⟩
/-- .. a list -/
theorem el_rowsL {t : Addr} {xs : List V} {rows : List Row} {i j : Nat} {vs : List Nat} (f : Row → Bool) (g : Row → V) (h : Ev tl σ H (.ref t)) (ht : SqL K H t xs) (hr : RowsAt H xs rows) (hl : rows.length ≤ 60)
    (hw : ∀ x y : V, wipe (((wipe σ vs).set i (some x)).set j (some y)) vs = wipe σ vs)
    (hs : ∀ r H1, r ∈ rows → Ex H H1 → EvT tt (((wipe σ vs).set i (some (.str r.1))).set j (some (vN r.2))) H1 (f r) ∧ (f r = true → Ev te (((wipe σ vs).set i (some (.str r.1))).set j (some (vN r.2))) H1 (g r))) :
    EvL (tLc (iList K tl) (gTup K 2 (gCons (gName i) (gCons (gName j) gNil))) tt te vs) σ H ((rows.filter f).map g) := by
  refine el_is (el_lcW walk_list (fun i => f (rows.getD i default)) (fun i => g (rows.getD i default)) (evi_list h ht) (by rw [hr.1]; omega) (fun H1 e => ex_l e ht) ?_) (by exact given_getD rows f g _ hr.1)
  rintro m x H2 H3 hm e2 ⟨rfl, hx⟩
  obtain ⟨r, a, h1, rfl, h2⟩ := hr.at hx
  rw [getD_of h1]
  obtain ⟨q1, q2⟩ := hs r H3 (List.mem_of_getElem? h1) e2
  exact ⟨Ex.refl _, _, fun Q q => g_two (st_of (e2 a _ h2)) q, hw _ _, q1, q2⟩
end
section
variable {P : Program} {w : World} {K : PySem.W.Frag} {mg : Str → Option Value} {σ : L2.St} {H : Hp} {ta : TE} {p κ r dr t d a b c e dx : Addr} {xs : List V} {rows : List Row} {v : Nat} {nm bs st ln : V} {bd : Str}
/-! fields -/
theorem f_rows (T : Tx P w K mg) (h : Ev ta σ H (.ref r)) (hr : RecIn K H r dr t d a b c e xs rows) : Ev (tFld K ta "own_rows") σ H (.ref t) := ev_fld h T.c_Record T.na_Record_own_rows hr.ins rfl
theorem f_firsts (T : Tx P w K mg) (h : Ev ta σ H (.ref r)) (hr : RecIn K H r dr t d a b c e xs rows) : Ev (tFld K ta "own_firsts") σ H (.ref d) := ev_fld h T.c_Record T.na_Record_own_firsts hr.ins rfl
theorem f_attrs (T : Tx P w K mg) (h : Ev ta σ H (.ref r)) (hr : RecIn K H r dr t d a b c e xs rows) : Ev (tFld K ta "own_attributes") σ H (.ref a) := ev_fld h T.c_Record T.na_Record_own_attributes hr.ins rfl
theorem f_meths (T : Tx P w K mg) (h : Ev ta σ H (.ref r)) (hr : RecIn K H r dr t d a b c e xs rows) : Ev (tFld K ta "own_methods") σ H (.ref b) := ev_fld h T.c_Record T.na_Record_own_methods hr.ins rfl
theorem f_rule (T : Tx P w K mg) (h : Ev ta σ H (.ref r)) (hr : RecIn K H r dr t d a b c e xs rows) : Ev (tFld K ta "own_rule") σ H (.ref c) := ev_fld h T.c_Record T.na_Record_own_rule hr.ins rfl
theorem f_miss (T : Tx P w K mg) (h : Ev ta σ H (.ref r)) (hr : RecIn K H r dr t d a b c e xs rows) : Ev (tFld K ta "own_missing") σ H (.ref e) := ev_fld h T.c_Record T.na_Record_own_missing hr.ins rfl
theorem f_rec (T : Tx P w K mg) (h : Ev ta σ H (.ref κ)) (hk : KindIn K H κ dx r nm bs st ln rows bd) : Ev (tFld K ta "own_record") σ H (.ref r) := ev_fld h T.c_Kind T.na_Kind_own_record hk.ins rfl
theorem f_fam (T : Tx P w K mg) (h : Ev ta σ H (.ref κ)) (hk : KindIn K H κ dx r nm bs st ln rows bd) : Ev (tFld K ta "own_family") σ H (.str "flag") := ev_fld h T.c_Kind T.na_Kind_own_family hk.ins rfl
theorem f_bound (T : Tx P w K mg) (h : Ev ta σ H (.ref κ)) (hk : KindIn K H κ dx r nm bs st ln rows bd) : Ev (tFld K ta "own_boundary") σ H (.str bd) := ev_fld h T.c_Kind T.na_Kind_own_boundary hk.ins rfl
theorem f_kind (T : Tx P w K mg) (h : Ev ta σ H (.ref p)) (hm : Mem K H p κ v) : Ev (tFld K ta "own_kind") σ H (.ref κ) := by
  obtain ⟨dx, a, b, c, hm⟩ := hm
  exact ev_fld h T.c_FlagMember T.na_FlagMember_own_kind hm rfl
theorem f_val (T : Tx P w K mg) (h : Ev ta σ H (.ref p)) (hm : Mem K H p κ v) : Ev (tFld K ta "own_value") σ H (vN v) := by
  obtain ⟨dx, a, b, c, hm⟩ := hm
  exact ev_fld h T.c_FlagMember T.na_FlagMember_own_value hm rfl
end
end EC
end
section
set_option Elab.async false
set_option linter.all false
set_option maxRecDepth 100000
set_option maxHeartbeats 2000000
/-! B4: == of lists of flat things and the empty list. -/
namespace EC
open PySem PySem.Spec PyProof.Rows L2 Evl
/-- data of depth at most 2 that may be compared -/
def okD : PyData → Prop := fun d => d.canLay0 = true ∧ d.depth ≤ 3
theorem okAll {ds : List PyData} (h : ∀ d ∈ ds, okD d) : PyData.canLayAll0 ds = true ∧ PyData.depthAll ds ≤ 3 := by
  induction ds with
  | nil => exact ⟨by simp [PyData.canLayAll0], by simp [PyData.depthAll]⟩
  | cons d ds ih =>
    obtain ⟨h1, h2⟩ := ih fun e he => h e (List.mem_cons_of_mem _ he)
    obtain ⟨h3, h4⟩ := h d List.mem_cons_self
    refine ⟨by simp [PyData.canLayAll0, h1, h3], ?_⟩
    simp only [PyData.depthAll]
    omega
theorem shaped_list {ds : List PyData} (h : ∀ d ∈ ds, okD d) : SeqAt.shaped (.list ds) = true := by
  obtain ⟨h1, h2⟩ := okAll h
  unfold SeqAt.shaped
  rw [Bool.and_eq_true]
  refine ⟨by simp [PyData.canLay0, h1], decide_eq_true ?_⟩
  simp only [PyData.depth]
  omega
theorem ok_int (i : Int) : okD (.int i) := ⟨by simp [PyData.canLay0], by simp [PyData.depth]⟩
theorem ok_bool (b : Bool) : okD (.bool b) := ⟨by simp [PyData.canLay0], by simp [PyData.depth]⟩
theorem ok_str {z : Str} (h : PyData.strOk z = true) : okD (.str z) := ⟨by simp [PyData.canLay0, h], by simp [PyData.depth]⟩
theorem ok_row {z : Str} (i : Int) (h : PyData.strOk z = true) : okD (.tuple [.str z, .int i]) := ⟨by simp [PyData.canLay0, PyData.canLayAll0, h], by simp [PyData.depth, PyData.depthAll]⟩
section
variable {K : PySem.W.Frag} {σ : L2.St} {H H' : Hp} {ta tb te : TE}
theorem dpall {α : Type} (f : α → V) (g : α → PyData) (h : ∀ a, Dp K H (f a) (g a)) : ∀ l : List α, DpAll K H (l.map f) (l.map g)
  | [] => .nil
  | a :: l => .cons (h a) (dpall f g h l)
/-- xs == [], xs != [] -/
theorem eqv_nil (ds : List PyData) : PyData.eqv (.list ds) (.list []) = ds.isEmpty := by
  cases ds <;> simp [PyData.eqv, PyData.eqvAll]
theorem rv_eqNil {p q : Addr} {xs : List V} {ds : List PyData} (hp : SqL K H p xs) (hq : SqL K H q []) (hd : ∀ H1, Ex H H1 → DpAll K H1 xs ds) (ho : ∀ d ∈ ds, okD d) : RV (rEqD K) (.ref p) (.ref q) H (.bl ds.isEmpty) := fun H1 e Q k =>
  ⟨.list ds, .list [], .lst (ex_l e hp) (hd H1 e), .lst (ex_l e hq) .nil, shaped_list ho, shaped_list (fun d h => by cases h), by
    rw [eqv_nil]
    exact k H1 (Ex.refl H1)⟩
theorem rv_neNil {p q : Addr} {xs : List V} {ds : List PyData} (hp : SqL K H p xs) (hq : SqL K H q []) (hd : ∀ H1, Ex H H1 → DpAll K H1 xs ds) (ho : ∀ d ∈ ds, okD d) : RV (rNeD K) (.ref p) (.ref q) H (.bl (!ds.isEmpty)) := fun H1 e Q k =>
  ⟨.list ds, .list [], .lst (ex_l e hp) (hd H1 e), .lst (ex_l e hq) .nil, shaped_list ho, shaped_list (fun d h => by cases h), by
    rw [eqv_nil]
    exact k H1 (Ex.refl H1)⟩
theorem el_nil : EvL (tLst tNil) σ H [] := el_lst ea_nil (Nat.zero_le _)
theorem ev_neNil {p : Addr} {xs : List V} {ds : List PyData} (ha : Ev ta σ H (.ref p)) (hp : SqL K H p xs) (hd : ∀ H1, Ex H H1 → DpAll K H1 xs ds) (ho : ∀ d ∈ ds, okD d) : Ev (tOp (rNeD K) ta (tLst tNil)) σ H (.bl (!ds.isEmpty)) :=
  ev_opL ha el_nil fun q H1 hq e => rv_neNil (ex_l e hp) (sq_of hq) (fun H2 e2 => hd H2 (e.trans e2)) ho
theorem ev_eqNil {p : Addr} {xs : List V} {ds : List PyData} (ha : Ev ta σ H (.ref p)) (hp : SqL K H p xs) (hd : ∀ H1, Ex H H1 → DpAll K H1 xs ds) (ho : ∀ d ∈ ds, okD d) : Ev (tOp (rEqD K) ta (tLst tNil)) σ H (.bl ds.isEmpty) :=
  ev_opL ha el_nil fun q H1 hq e => rv_eqNil (ex_l e hp) (sq_of hq) (fun H2 e2 => hd H2 (e.trans e2)) ho
theorem dp_nats (l : List Nat) : DpAll K H (l.map vN) (l.map fun n : Nat => PyData.int (n : Int)) := dpall vN _ (fun n => .int _) l
theorem ok_nats (l : List Nat) : ∀ d ∈ l.map (fun n : Nat => PyData.int (n : Int)), okD d := fun d h => by
  obtain ⟨n, _, rfl⟩ := List.mem_map.mp h
  exact ok_int _
theorem dp_strs (l : List Str) : DpAll K H (l.map V.str) (l.map PyData.str) := dpall V.str _ (fun n => .str _) l
theorem ok_strs {l : List Str} (ho : ∀ z ∈ l, PyData.strOk z = true) : ∀ d ∈ l.map PyData.str, okD d := fun d h => by
  obtain ⟨z, hz, rfl⟩ := List.mem_map.mp h
  exact ok_str (ho z hz)
theorem isEmpty_map {α β : Type} (f : α → β) (l : List α) : (l.map f).isEmpty = l.isEmpty := by cases l <;> rfl
end
end EC
end
section
set_option Elab.async false
set_option linter.all false
set_option maxRecDepth 100000
set_option maxHeartbeats 2000000
namespace EC
open PySem PySem.Spec PyProof.Rows L2 Evl
section
variable {P : Program} {w : World} {K : PySem.W.Frag} {mg : Str → Option Value} {base : Heap}
theorem ev_dget {td ty : TE} {σ : L2.St} {H : Hp} {a : Addr} {z : Str} {v : V} {kvs : List (Key × V)} (hd : Ev td σ H (.ref a)) (hy : Ev ty σ H (.str z)) (ha : H a = some (.dK kvs)) (hv : valV kvs (Sum.inr z) = some v) : Ev (tDGet td ty) σ H v := fun H1 e Q q =>
  hd H1 e _ fun H2 e2 => hy H2 (e.trans e2) _ fun H3 e3 => ⟨a, v, rfl, by
    have h := DGet.k (k := Sum.inr z) (((e.trans e2).trans e3) a _ ha)
    rw [hv] at h
    exact h, q H3 (e2.trans e3)⟩
theorem valV_firsts : ∀ (all rows : List Row), (rows.map (·.1)).Nodup → ∀ r ∈ rows, valV (rows.map fun r => ((Sum.inr r.1 : Key), V.str (firstName all r.2))) (Sum.inr r.1) = some (.str (firstName all r.2))
  | all, [], _, r, h => by cases h
  | all, q :: rows, nd, r, h => by
    rw [List.map_cons, List.nodup_cons] at nd
    unfold valV
    rw [List.map_cons, List.find?_cons]
    rcases List.mem_cons.mp h with rfl | h
    · simp
    · have hne : ¬ ((Sum.inr q.1 : Key) = Sum.inr r.1) := fun e => nd.1 (by
        rw [Sum.inr.inj e]
        exact List.mem_map.mpr ⟨r, h, rfl⟩)
      simp only [decide_eq_false hne]
      exact valV_firsts all rows nd.2 r h
/-- the values, each once -/
def firstVals (rows : List Row) : List Nat := (rows.filter fun r => decide (firstName rows r.2 = r.1)).map (·.2)
theorem eq_str (a b : Str) : decide (V.str a = V.str b) = decide (a = b) := decide_eq_decide.mpr ⟨fun q => V.str.inj q, fun q => by rw [q]⟩
def LstV (xs : List V) : V → Hp → Prop := fun v H' => ∃ p, v = .ref p ∧ H' p = some (.lst xs)
theorem EvL.gv {te : TE} {σ : L2.St} {H : Hp} {xs : List V} (h : EvL te σ H xs) : Gv te σ H (LstV xs) := fun H1 e Q q => h H1 e Q fun p H2 hn e2 h2 => q _ H2 e2 ⟨p, rfl, h2⟩
def spValuesIn (K : PySem.W.Frag) : Sp := mkSp fun vs H P => ∃ (r : Addr) (rows : List Row), vs = [.ref r] ∧ RecAt K H r rows ∧ Wf rows ∧ P = LstV ((firstVals rows).map vN)
theorem sc_values_in : FnScope ["record", "name", "value"] ["record"] (defScope s_values_in) := ⟨rfl, rfl, rfl, by decide +kernel, rfl, by decide +kernel, by decide +kernel⟩
theorem fn_values_in (T : Tx P w K mg) : ∃ fd, Fn P w K mg base 1 "values_in" ["record"] (spValuesIn K) fd := by
  obtain ⟨fd, F⟩ := T.f_values_in
  have nd := sc_values_in.nd
  refine ⟨fd, ⟨F.ok sc_values_in (fun vs H Q E h => ?_) (fun cdv A outer s H vs Q E hr h => ⟨_, PSs.nox ((pss_one (ps_ret (pe_lc (own := [("name", 1), ("value", 2)]) rfl nd (piK_tup (K := K) (pe_fldK (K := K) (pv 0) rfl)) (blkOk_by (N := ["record", "name", "value"]) (sc := defScope s_values_in) (by decide +kernel)) (fun _ _ _ _ _ => (pgK_tup (K := K) (n := 2) rfl (pgs_cons (pg_name (i := 1) nd rfl (Or.inl rfl)) (pgs_cons (pg_name (i := 2) nd rfl (Or.inl rfl)) pgs_nil)))) (fun _ _ _ _ _ => (pts_one (pt_cmpR op_eq (pe_dget (hu_of hr) (pe_fldK (K := K) (pv 0) rfl) (pv 1) (fun _ _ => rfl)) (pv 1) (nomark _)))) (fun _ _ _ _ _ => (pv 2)))))), ?_⟩), F.bindsN fun _ _ _ _ _ _ us hl => match us, hl with | [_], _ => rfl, F.kp, T.m_values_in⟩⟩
  · obtain ⟨_, h, _⟩ := h
    obtain ⟨r, rows, rfl, hr, wf, rfl⟩ := h
    rfl
  · obtain ⟨Pz, h, k⟩ := h
    obtain ⟨r, rows, rfl, hr, wf, rfl⟩ := h
    obtain ⟨dr, t, d, a, b, c, e, xs, hr⟩ := hr
    have key : ((rows.filter fun q => decide (firstName rows q.2 = q.1)).map fun q => vN q.2) = (firstVals rows).map vN := by
      unfold firstVals
      rw [List.map_map]
      rfl
    refine s_retG (EvL.gv (el_is (el_rows (fun q => decide (firstName rows q.2 = q.1)) (fun q => vN q.2) (f_rows T (ev_var rfl) hr) hr.tup hr.rws wf.small (fun _ _ => rfl) fun q H1 hq e1 => ⟨?_, fun _ => ev_var rfl⟩) key)) fun v H1 e1 hv => k _ H1 e1 hv
    exact et_test (ev_op (ev_dget (f_firsts T (ev_var rfl) (hr.mono e1)) (ev_var rfl) (hr.mono e1).fst (valV_firsts rows rows wf.nd q hq)) (ev_var rfl) (rv_is (rv_eq rfl) (congrArg V.bl (eq_str _ _))))
def orL (l : List Nat) : Nat := l.foldl (· ||| ·) 0
def spMaskIn (K : PySem.W.Frag) : Sp := mkSp fun vs H P => ∃ (r : Addr) (rows : List Row), vs = [.ref r] ∧ RecAt K H r rows ∧ Wf rows ∧ P = IsV (vN (orL (firstVals rows)))
theorem orL_take (l : List Nat) (i x : Nat) (h : l[i]? = some x) : orL (l.take (i + 1)) = orL (l.take i) ||| x := by
  unfold orL
  rw [List.take_add_one, h, List.foldl_append]
  rfl
/-- a for over a new list that a call gives -/
theorem q_forGL {K : PySem.W.Frag} {σ : L2.St} {H : Hp} {tl : TE} {D : Ends} {tz tb : TS} {g : TG} {xs : List V} (h : Gv tl σ H (LstV xs)) (Pv : Hp → Nat → L2.St → Hp → Prop) (hE : ∀ H1 i σ' H', Pv H1 i σ' H' → Ex H1 H') (h0 : ∀ H1, Ex H H1 → Pv H1 0 σ H1)
    (hs : ∀ H1 i x σ' H', Ex H H1 → xs[i]? = some x → Pv H1 i σ' H' → g x σ' H' fun σ2 H2 => tb { D with nx := Pv H1 (i + 1), ct := Pv H1 (i + 1), bk := tz D } σ2 H2) (hd : ∀ H1 σ' H', Ex H H1 → Pv H1 xs.length σ' H' → tz D σ' H') : tSeq (tFor (iList K tl) g tb) tz D σ H :=
  h H (Ex.refl H) _ fun v H1 e1 hv => by
    obtain ⟨p, rfl, hp⟩ := hv
    exact ⟨p, rfl, ⟨xs, sq_of hp⟩, for_list (D := { D with nx := tz D }) (Pv H1) (h0 H1 e1) (fun i σ' H' _ q => sq_of (hE H1 i σ' H' q p _ hp)) (fun i x σ' H' hx q => hs H1 i x σ' H' e1 hx q) (fun σ' H' q => hd H1 σ' H' e1 q)⟩
theorem sc_mask_in : FnScope ["record", "found", "value"] ["record"] (defScope s_mask_in) := ⟨rfl, rfl, rfl, by decide +kernel, rfl, by decide +kernel, by decide +kernel⟩
theorem fn_mask_in (T : Tx P w K mg) : ∃ fd, Fn P w K mg base 2 "mask_in" ["record"] (spMaskIn K) fd := by
  obtain ⟨fd, F⟩ := T.f_mask_in
  obtain ⟨fdGvalues_in, Gvalues_in⟩ := fn_values_in (base := base) T
  have nd := sc_mask_in.nd
  refine ⟨fd, ⟨F.ok sc_mask_in (fun vs H Q E h => ?_) (fun cdv A outer s H vs Q E hr h => ⟨_, PSs.nox ((pss_cons (ps_set (i := 1) nd rfl (Or.inl rfl) pe_int)
  (pss_cons (ps_for PassesOwn.never rfl (piK_list (K := K) (pe_call Gvalues_in.ok (hr.mono (by decide)) rfl Gvalues_in.m Gvalues_in.kp Gvalues_in.b .nil pass0 (pa_cons (pv 0) pa_nil))) (pg_name (i := 2) nd rfl (Or.inl rfl)) (pss_one (ps_set (i := 1) nd rfl (Or.inl rfl) (pe_op op_or (pv 1) (pv 2)))))
  (pss_one (ps_ret (pv 1)))))), ?_⟩), F.bindsN fun _ _ _ _ _ _ us hl => match us, hl with | [_], _ => rfl, F.kp, T.m_mask_in⟩⟩
  · obtain ⟨_, h, _⟩ := h
    obtain ⟨r, rows, rfl, hr, wf, rfl⟩ := h
    rfl
  · obtain ⟨Pz, h, k⟩ := h
    obtain ⟨r, rows, rfl, hr, wf, rfl⟩ := h
    refine q_asg ev_c fun H1 e1 => ?_
    refine q_forGL (gv_call (ea_cons (ev_var rfl) ea_nil) (spg fun H2 e2 => ⟨r, rows, rfl, hr.mono (e1.trans e2), wf, rfl⟩)) (fun H2 i σ' H' => Ex H2 H' ∧ ∃ o, σ' = [some (.ref r), some (vN (orL ((firstVals rows).take i))), o]) (fun H2 i σ' H' q => q.1) (fun H2 e2 => ⟨Ex.refl _, none, rfl⟩) (fun H2 i x σ' H3 e2 hx q => ?_) fun H2 σ' H3 e2 q => ?_
    · obtain ⟨e3, o, rfl⟩ := q
      rw [List.getElem?_map] at hx
      obtain ⟨b, hb, rfl⟩ := Option.map_eq_some_iff.mp hx
      refine g_name (s_asg (ev_op (ev_var rfl) (ev_var rfl) rv_I0) fun H5 e5 => ⟨e3.trans e5, some (vN b), ?_⟩)
      rw [orL_take _ i b hb, bO]
      rfl
    · obtain ⟨e3, o, rfl⟩ := q
      rw [List.length_map, List.take_length]
      exact s_ret (ev_var rfl) fun H5 e5 => k _ H5 (((e1.trans e2).trans e3).trans e5) rfl
def valOf (rows : List Row) (z : Str) : Nat := ((rows.filter fun q => decide (q.1 = z)).map (·.2)).getD 0 0
def spNamesOf (K : PySem.W.Frag) : Sp := mkSp fun vs H P => ∃ (κ : Addr) (n : Nat) (rows : List Row) (bd : Str), vs = [.ref κ, vN n] ∧ KindAt K H κ rows bd ∧ Wf rows ∧ P = fun v H' => ∃ (p : Addr) (zs : List Str), v = .ref p ∧ zs.length ≤ 60 ∧ (∀ z ∈ zs, PyData.strOk z = true) ∧ H' p = some (.lst (zs.map V.str))
theorem sc_names_of : FnScope ["kind", "value", "word", "given"] ["kind", "value"] (defScope s_names_of) := ⟨rfl, rfl, rfl, by decide +kernel, rfl, by decide +kernel, by decide +kernel⟩
theorem fn_names_of (T : Tx P w K mg) : ∃ fd, Fn P w K mg base 1 "names_of" ["kind", "value"] (spNamesOf K) fd := by
  obtain ⟨fd, F⟩ := T.f_names_of
  have nd := sc_names_of.nd
  refine ⟨fd, ⟨F.ok sc_names_of (fun vs H Q E h => ?_) (fun cdv A outer s H vs Q E hr h => ⟨_, PSs.nox ((pss_one (ps_ret (pe_lc (own := [("word", 2), ("given", 3)]) rfl nd (piK_tup (K := K) (pe_fldK (K := K) (pe_fldK (K := K) (pv 0) rfl) rfl)) (blkOk_by (N := ["kind", "value", "word", "given"]) (sc := defScope s_names_of) (by decide +kernel)) (fun _ _ _ _ _ => (pgK_tup (K := K) (n := 2) rfl (pgs_cons (pg_name (i := 2) nd rfl (Or.inl rfl)) (pgs_cons (pg_name (i := 3) nd rfl (Or.inl rfl)) pgs_nil)))) (fun _ _ _ _ _ => (pts_one (pt_cmpR op_eq (pv 3) (pv 1) (nomark _)))) (fun _ _ _ _ _ => (pv 2)))))), ?_⟩), F.bindsN fun _ _ _ _ _ _ us hl => match us, hl with | [_, _], _ => rfl, F.kp, T.m_names_of⟩⟩
  · obtain ⟨_, h, _⟩ := h
    obtain ⟨κ, n, rows, bd, rfl, hk, wf, rfl⟩ := h
    rfl
  · obtain ⟨Pz, h, k⟩ := h
    obtain ⟨κ, n, rows, bd, rfl, hk, wf, rfl⟩ := h
    obtain ⟨dx, r, nm, bs, st, ln, hk⟩ := hk
    obtain ⟨dr, t, d, a, b, c, e, xs, hr⟩ := hk.rec_
    refine s_retG (EvL.gv (el_rows (fun q => decide (q.2 = n)) (fun q => .str q.1) (f_rows T (f_rec T (ev_var rfl) hk) hr) hr.tup hr.rws wf.small (fun _ _ => rfl) fun q H1 hq e1 => ⟨?_, fun _ => ev_var rfl⟩)) fun v H1 e1 hv => ?_
    · exact et_test (ev_op (ev_var rfl) (ev_var rfl) (rv_is (rv_eq rfl) (congrArg V.bl (eq_nat _ _))))
    · obtain ⟨p, rfl, hp⟩ := hv
      refine k _ H1 e1 ⟨p, (rows.filter fun q => decide (q.2 = n)).map (·.1), rfl, ?_, fun z hz => ?_, ?_⟩
      · rw [List.length_map]
        exact Nat.le_trans (List.length_filter_le _ _) wf.small
      · obtain ⟨q, hq, rfl⟩ := List.mem_map.mp hz
        exact (wf.nm q (List.mem_filter.mp hq).1).2
      · rw [hp, List.map_map]
        rfl
def spValOf (K : PySem.W.Frag) : Sp := mkSp fun vs H P => ∃ (κ : Addr) (z : Str) (rows : List Row) (bd : Str), vs = [.ref κ, .str z] ∧ KindAt K H κ rows bd ∧ Wf rows ∧ z ∈ rows.map (·.1) ∧ P = IsV (vN (valOf rows z))
theorem sc_value_of_name_members : FnScope ["kind", "name", "found", "word", "value"] ["kind", "name"] (defScope s_value_of_name_members) := ⟨rfl, rfl, rfl, by decide +kernel, rfl, by decide +kernel, by decide +kernel⟩
theorem fn_value_of_name_members (T : Tx P w K mg) : ∃ fd, Fn P w K mg base 1 "value_of_name_members" ["kind", "name"] (spValOf K) fd := by
  obtain ⟨fd, F⟩ := T.f_value_of_name_members
  have nd := sc_value_of_name_members.nd
  refine ⟨fd, ⟨F.ok sc_value_of_name_members (fun vs H Q E h => ?_) (fun cdv A outer s H vs Q E hr h => ⟨_, PSs.nox ((pss_cons (ps_setLc (i := 2) (own := [("word", 3), ("value", 4)]) rfl nd rfl rfl (sw_true rfl rfl rfl (by decide +kernel)) (piK_tup (K := K) (pe_fldK (K := K) (pe_fldK (K := K) (pv 0) rfl) rfl)) (blkOk_by (N := ["kind", "name", "found", "word", "value"]) (sc := defScope s_value_of_name_members) (by decide +kernel)) (fun _ _ _ _ _ => (pgK_tup (K := K) (n := 2) rfl (pgs_cons (pg_name (i := 3) nd rfl (Or.inl rfl)) (pgs_cons (pg_name (i := 4) nd rfl (Or.inl rfl)) pgs_nil)))) (fun _ _ _ _ _ => (pts_one (PW.pt (pw_and (pt_val (pe_callB (callK_isi (K := K)) (by rfl) T.b_isinstance bo_isinstance (pa_cons (pv 1) (pa_cons (pe_ty_str (by rfl) T.b_str) pa_nil)))) (pw_and1 (pt_cmpR op_eq (pv 3) (pv 1) (nomark _))))))) (fun _ _ _ _ _ => (pv 4)))
  (pss_cons (ps_if (pt_cmpR (opK_eqD (K := K) hr.units) (pv 2) (pe_lst pa_nil) (nomark _)) (pss_one ps_never) pss_nil)
  (pss_one (ps_ret (pe_ix (ixK_list (K := K)) (pv 2) pe_int (fun _ _ => rfl))))))), ?_⟩), F.bindsN fun _ _ _ _ _ _ us hl => match us, hl with | [_, _], _ => rfl, F.kp, T.m_value_of_name_members⟩⟩
  · obtain ⟨_, h, _⟩ := h
    obtain ⟨κ, z, rows, bd, rfl, hk, wf, hz, rfl⟩ := h
    rfl
  · obtain ⟨Pz, h, k⟩ := h
    obtain ⟨κ, z, rows, bd, rfl, hk, wf, hz, rfl⟩ := h
    obtain ⟨dx, r, nm, bs, st, ln, hk⟩ := hk
    obtain ⟨dr, t, d, a, b, c, e, xs, hr⟩ := hk.rec_
    refine q_asgL (el_rows (fun q => decide (q.1 = z)) (fun q => vN q.2) (f_rows T (f_rec T (ev_var rfl) hk) hr) hr.tup hr.rws wf.small (fun _ _ => rfl) fun q H1 hq e1 => ⟨?_, fun _ => ev_var rfl⟩) fun p H1 hp0 e1 hp => ?_
    · exact et_and (a := true) (et_B (ei_str (ev_var rfl))) fun _ => et_test (ev_op (ev_var rfl) (ev_var rfl) (rv_is (rv_eq rfl) (congrArg V.bl (eq_str _ _))))
    have e0 : ((rows.filter fun q => decide (q.1 = z)).map fun q => vN q.2) = ((rows.filter fun q => decide (q.1 = z)).map (·.2)).map vN := by
      rw [List.map_map]
      rfl
    rw [e0] at hp
    obtain ⟨n0, ns, hn⟩ : ∃ n0 ns, ((rows.filter fun q => decide (q.1 = z)).map (·.2)) = n0 :: ns := by
      obtain ⟨q, hq, hqz⟩ := List.mem_map.mp hz
      cases h0 : (rows.filter fun q => decide (q.1 = z)) with
      | nil =>
        have h1 : q ∈ rows.filter fun q => decide (q.1 = z) := List.mem_filter.mpr ⟨hq, decide_eq_true hqz⟩
        rw [h0] at h1
        cases h1
      | cons q0 qs => exact ⟨_, _, rfl⟩
    have ev : valOf rows z = n0 := by
      unfold valOf
      rw [hn]
      rfl
    rw [hn] at hp
    refine q_when (b := false) (et_test (ev_is (ev_eqNil (ev_var rfl) (sq_of hp) (fun H2 _ => dp_nats _) (ok_nats _)) rfl)) (fun z => nomatch z) fun _ H2 e2 => ?_
    refine s_ret (v := vN (valOf rows z)) (ev_op (ev_var rfl) ev_c (rv_ixL (sq_of (e2 p _ hp)) ?_)) fun H3 e3 => k _ H3 ((e1.trans e2).trans e3) rfl
    rw [ev]
    exact at_nat (j := 0) rfl
/-- the rows whose value stands for the first time -/
def isFirst (rows : List Row) (i : Nat) : Bool := !(((rows.take i).map (·.2)).contains (rows.getD i default).2)
def firstRows (rows : List Row) : List Row := ((List.range rows.length).filter (isFirst rows)).map fun i => rows.getD i default
theorem given_rows {H : Hp} {xs : List V} {rows : List Row} (h : RowsAt H xs rows) (f : Nat → Bool) : RowsAt H (given xs.length f fun i => xs.getD i .non) (((List.range rows.length).filter f).map fun i => rows.getD i default) := by
  unfold given
  rw [h.1]
  refine ⟨by rw [List.length_map, List.length_map], fun m r hr => ?_⟩
  rw [List.getElem?_map] at hr
  obtain ⟨i, hi, rfl⟩ := Option.map_eq_some_iff.mp hr
  have hi2 := List.mem_range.mp (List.mem_filter.mp (List.mem_of_getElem? hi)).1
  have e1 : rows[i]? = some (rows.getD i default) := by
    rw [List.getD_eq_getElem?_getD, List.getElem?_eq_getElem hi2]
    rfl
  obtain ⟨a, h1, h2⟩ := h.2 i _ e1
  refine ⟨a, ?_, h2⟩
  rw [List.getElem?_map, hi]
  exact congrArg some (getD_of h1)
def RowL (rows : List Row) : V → Hp → Prop := fun v H' => ∃ p xs, v = .ref p ∧ H' p = some (.lst xs) ∧ RowsAt H' xs rows
def spFirstRows (K : PySem.W.Frag) : Sp := mkSp fun vs H P => ∃ (κ : Addr) (rows : List Row) (bd : Str), vs = [.ref κ] ∧ KindAt K H κ rows bd ∧ Wf rows ∧ P = RowL (firstRows rows)
theorem sIx_lt {n i : Nat} (h : i < n) : ¬ (HT.sIx n 0 none = 0 ∧ HT.sIx n n (some (i : Int)) = n) := by
  rintro ⟨_, h2⟩
  have h3 : HT.sIx n n (some (i : Int)) = i := by
    show (if (i : Int) < 0 then ((i : Int) + (n : Int)).toNat else min ((i : Int)).toNat n) = i
    rw [if_neg (by omega)]
    omega
  omega
theorem cut_take {xs : List V} {i : Nat} (h : i < xs.length) : cutV xs none (some (i : Int)) = xs.take i := by
  have h3 : HT.sIx xs.length xs.length (some (i : Int)) = i := by
    show (if (i : Int) < 0 then ((i : Int) + (xs.length : Int)).toNat else min ((i : Int)).toNat xs.length) = i
    rw [if_neg (by omega)]
    omega
  have h4 : HT.sIx xs.length 0 none = 0 := rfl
  unfold cutV
  rw [h3, h4, List.drop_zero, Nat.sub_zero]
theorem eu_cut {K : PySem.W.Frag} {σ : L2.St} {H : Hp} {ta tb : TE} {a : Addr} {xs : List V} {i : Nat} (ha : Ev ta σ H (.ref a)) (hx : SqT K H a xs) (hb : Ev tb σ H (.int (i : Int))) (hi : i < xs.length) : EvU (tSl (rSlA K) ta tNoPart (tPart tb)) σ H (xs.take i) := fun H1 e Q q =>
  ha H1 e _ fun H2 e2 => hb H2 (e.trans e2) _ fun H3 e3 => ⟨(i : Int), rfl, a, xs, rfl, ex_t ((e.trans e2).trans e3) hx, fun h => absurd h (sIx_lt hi), fun _ p hp => by
    rw [cut_take hi]
    exact q p _ (fresh_back (e2.trans e3) hp) ((e2.trans e3).trans (Ex.new hp)) upd_same⟩
theorem RowsAt.take {H : Hp} {xs : List V} {rows : List Row} (h : RowsAt H xs rows) (n : Nat) : RowsAt H (xs.take n) (rows.take n) := by
  refine ⟨by rw [List.length_take, List.length_take, h.1], fun i r hr => ?_⟩
  rw [List.getElem?_take] at hr ⊢
  by_cases hi : i < n
  · rw [if_pos hi] at hr ⊢
    exact h.2 i r hr
  · rw [if_neg hi] at hr
    cases hr
theorem inV_nat (b : Nat) (xs : List Nat) : inV (vN b) (xs.map vN) = xs.contains b := by
  rw [in_vN]
  by_cases h : b ∈ xs <;> simp [h]
theorem sc_first_rows : FnScope ["kind", "rows", "at", "row", "word", "given"] ["kind"] (defScope s_first_rows) := ⟨rfl, rfl, rfl, by decide +kernel, rfl, by decide +kernel, by decide +kernel⟩
theorem fn_first_rows (T : Tx P w K mg) : ∃ fd, Fn P w K mg base 1 "first_rows" ["kind"] (spFirstRows K) fd := by
  obtain ⟨fd, F⟩ := T.f_first_rows
  have nd := sc_first_rows.nd
  refine ⟨fd, ⟨F.ok sc_first_rows (fun vs H Q E h => ?_) (fun cdv A outer s H vs Q E hr h => ⟨_, PSs.nox ((pss_cons (ps_set (i := 1) nd rfl (Or.inr rfl) (pe_fldK (K := K) (pe_fldK (K := K) (pv 0) rfl) rfl))
  (pss_one (ps_ret (pe_lc (own := [("at", 2), ("row", 3)]) rfl nd (piK_enumT (K := K) (by rfl) T.b_enumerate (pa_cons (pv 1) pa_nil)) (blkOk_by (N := ["kind", "rows", "at", "row", "word", "given"]) (sc := defScope s_first_rows) (by decide +kernel)) (fun _ _ _ _ _ => (pgK_tup (K := K) (n := 2) rfl (pgs_cons (pg_name (i := 2) nd rfl (Or.inl rfl)) (pgs_cons (pg_name (i := 3) nd rfl (Or.inl rfl)) pgs_nil)))) (fun _ _ _ _ _ => (pts_one (pt_cmpR (opK_ni (K := K)) (pe_ix (ixK_tup (K := K)) (pv 3) pe_int (fun _ _ => rfl)) (pe_lc (own := [("word", 4), ("given", 5)]) rfl nd (piK_tup (K := K) (pe_slice (slK_tupA (K := K)) (pv 1) po_none (po_some (pv 2)))) (blkOk_any (N := ["kind", "rows", "at", "row", "word", "given"]) (by decide +kernel)) (fun _ _ _ _ _ => (pgK_tup (K := K) (n := 2) rfl (pgs_cons (pg_name (i := 4) nd rfl (Or.inl rfl)) (pgs_cons (pg_name (i := 5) nd rfl (Or.inl rfl)) pgs_nil)))) (fun _ _ _ _ _ => pts_nil) (fun _ _ _ _ _ => (pv 5))) (by rfl)))) (fun _ _ _ _ _ => (pv 3))))))), ?_⟩), F.bindsN fun _ _ _ _ _ _ us hl => match us, hl with | [_], _ => rfl, F.kp, T.m_first_rows⟩⟩
  · obtain ⟨_, h, _⟩ := h
    obtain ⟨κ, rows, bd, rfl, hk, wf, rfl⟩ := h
    rfl
  · obtain ⟨Pz, h, k⟩ := h
    obtain ⟨κ, rows, bd, rfl, hk, wf, rfl⟩ := h
    obtain ⟨dx, r, nm, bs, st, ln, hk⟩ := hk
    obtain ⟨dr, t, d, a, b, c, e, xs, hr⟩ := hk.rec_
    refine q_asg (f_rows T (f_rec T (ev_var rfl) hk) hr) fun H1 e1 => ?_
    have hr1 := hr.mono e1
    have hl1 : xs.length = rows.length := hr.rws.1
    have hsm := wf.small
    refine s_retG (EvL.gv (el_lcW walk_enumT (isFirst rows) (fun i => xs.getD i .non) (evi_enumT (ea_cons (ev_var rfl) ea_nil) hr1.tup) (by omega) (fun H2 e2 => ex_t e2 hr1.tup) ?_)) fun v H2 e2 hv => ?_
    · rintro i x H2 H3 hi e2 ⟨T1, x1, x2, rfl, hT, rfl, h1, h2⟩
      cases h1
      have hr2 := hr1.mono (e2.trans (Ex.new (o := .tup [.int (i : Nat), x2]) hT))
      obtain ⟨q, aq, hq1, rfl, hq2⟩ := hr2.rws.at h2
      refine ⟨Ex.new hT, _, fun Q q => g_two (st_of upd_same) q, rfl, ?_, fun _ => ?_⟩
      · have e0 : isFirst rows i = !(((rows.take i).map (·.2)).contains q.2) := by
          unfold isFirst
          rw [getD_of hq1]
        rw [e0]
        refine et_test (ev_opL (ev_op (ev_var rfl) ev_c (rv_ixT (st_of hq2) (at_nat (j := 1) rfl))) (el_rowsU (fun _ => true) (fun r => vN r.2) (eu_cut (ev_var rfl) hr2.tup (ev_var rfl) hi) (hr2.rws.take i) (by rw [List.length_take]; omega) (fun _ _ => rfl) fun r H4 hr4 e4 => ⟨fun H5 e5 Q k => k H5 (Ex.refl H5), fun _ => ev_var rfl⟩) fun p H4 hp e4 => ?_)
        have e5 : (((rows.take i).filter fun _ => true).map fun r => vN r.2) = ((rows.take i).map (·.2)).map vN := by
          rw [List.filter_eq_self.mpr (fun _ _ => rfl), List.map_map]
          rfl
        rw [e5] at hp
        exact rv_is (rv_niL (sq_of hp) rfl (flat_vN _)) (by rw [inV_nat])
      · have e6 : xs.getD i .non = .ref aq := getD_of h2
        rw [e6]
        exact ev_var rfl
    · obtain ⟨p, rfl, hp⟩ := hv
      exact k _ H2 (e1.trans e2) ⟨p, _, rfl, hp, (given_rows (hr1.rws.mono e2) (isFirst rows))⟩

end
end EC
end
section
set_option Elab.async false
set_option linter.all false
set_option maxRecDepth 100000
set_option maxHeartbeats 2000000
namespace EC
open PySem PySem.Spec PyProof.Rows L2 Evl
section
variable {P : Program} {w : World} {K : PySem.W.Frag} {mg : Str → Option Value} {base : Heap}
theorem el_lcS {wi : TI} {g : TG} {tt : TT} {te : TE} {vs : List Nat} {σ : L2.St} {H : Hp} {S : It → Hp → Prop} (n : Nat) (f : Nat → Bool) (v : Nat → V) (hn : n ≤ 40000) (hwi : ∀ H1, Ex H H1 → ∀ R : It → Hp → Prop, (∀ J H2, Ex H1 H2 → S J H2 → R J H2) → wi σ H1 R)
    (hin : ∀ J H1, Ex H H1 → S J H1 → ∃ G Y, Walk J n G Y ∧ (∀ H2, Ex H1 H2 → G H2) ∧ ∀ i x H2 H3, i < n → Ex H1 H2 → Y i H2 x H3 → Ex H2 H3 ∧ ∃ σ2, (∀ Q : L2.St → Hp → Prop, Q σ2 H3 → g x (wipe σ vs) H3 Q) ∧ wipe σ2 vs = wipe σ vs ∧ EvT tt σ2 H3 (f i) ∧ (f i = true → Ev te σ2 H3 (v i))) :
    EvL (tLc wi g tt te vs) σ H (given n f v) := fun H0 e Q q => hwi H0 e _ fun J H1 e1 hS Dl hD => by
  obtain ⟨G, Y, W, hG, hs⟩ := hin J H1 (e.trans e1) hS
  exact lc_it W (Cw H1 f v Dl) ⟨hD, Ex.new hD, upd_same⟩ (fun i H' _ p => hG _ p.2.1) (fun i x H2 H3 hi p y => by
    obtain ⟨e3, σ2, hg, hw, ht, he⟩ := hs i x H2 H3 hi p.2.1 y
    exact hg _ ⟨hw, cw_turn2 ⟨p.1, p.2.1.trans e3, e3 Dl _ p.2.2⟩ (by omega) ht he⟩) fun H2 p => q Dl H2 (fresh_back e1 p.1) (e1.trans p.2.1) p.2.2
theorem evs_rowsL {K : PySem.W.Frag} {σ : L2.St} {H : Hp} {tl : TE} {rows : List Row} (h : Gv tl σ H (RowL rows)) : ∀ H1, Ex H H1 → ∀ R : It → Hp → Prop, (∀ J H2, Ex H1 H2 → (∃ p xs, J = Itl K p ∧ H2 p = some (.lst xs) ∧ RowsAt H2 xs rows) → R J H2) → iList K tl σ H1 R := fun H1 e R q =>
  h H1 e _ fun v H2 e2 hv => by
    obtain ⟨p, xs, rfl, hp, hr⟩ := hv
    exact ⟨p, rfl, ⟨xs, sq_of hp⟩, q _ H2 e2 ⟨p, xs, rfl, hp, hr⟩⟩
theorem evs_rowsE {K : PySem.W.Frag} {σ : L2.St} {H : Hp} {tl : TE} {rows : List Row} (h : Gv tl σ H (RowL rows)) : ∀ H1, Ex H H1 → ∀ R : It → Hp → Prop, (∀ J H2, Ex H1 H2 → (∃ p xs, J = Ite K p ∧ H2 p = some (.lst xs) ∧ RowsAt H2 xs rows) → R J H2) → iEnum K (tCons tl tNil) σ H1 R := fun H1 e R q =>
  h H1 e _ fun v H2 e2 hv => by
    obtain ⟨p, xs, rfl, hp, hr⟩ := hv
    exact ⟨p, xs, rfl, sq_of hp, q _ H2 e2 ⟨p, xs, rfl, hp, hr⟩⟩
theorem firstRows_len (rows : List Row) : (firstRows rows).length ≤ rows.length := by
  unfold firstRows
  rw [List.length_map]
  exact Nat.le_trans (List.length_filter_le _ _) (by rw [List.length_range]; exact Nat.le_refl _)
theorem firstRows_mem {rows : List Row} {r : Row} (h : r ∈ firstRows rows) : r ∈ rows := by
  unfold firstRows at h
  obtain ⟨i, hi, rfl⟩ := List.mem_map.mp h
  have hi2 := List.mem_range.mp (List.mem_filter.mp hi).1
  rw [List.getD_eq_getElem?_getD, List.getElem?_eq_getElem hi2]
  exact List.getElem_mem hi2
def AnyV : V → Hp → Prop := fun _ _ => True
def spPlaceOf (K : PySem.W.Frag) : Sp := mkSp fun vs H P => ∃ (κ : Addr) (n : Nat) (rows : List Row) (bd : Str), vs = [.ref κ, vN n] ∧ KindAt K H κ rows bd ∧ Wf rows ∧ P = AnyV
theorem sc_place_of : FnScope ["kind", "value", "places", "at", "row"] ["kind", "value"] (defScope s_place_of) := ⟨rfl, rfl, rfl, by decide +kernel, rfl, by decide +kernel, by decide +kernel⟩
theorem fn_place_of (T : Tx P w K mg) : ∃ fd, Fn P w K mg base 2 "place_of" ["kind", "value"] (spPlaceOf K) fd := by
  obtain ⟨fd, F⟩ := T.f_place_of
  obtain ⟨fdGfirst_rows, Gfirst_rows⟩ := fn_first_rows (base := base) T
  have nd := sc_place_of.nd
  refine ⟨fd, ⟨F.ok sc_place_of (fun vs H Q E h => ?_) (fun cdv A outer s H vs Q E hr h => ⟨_, PSs.nox ((pss_cons (ps_setLc (i := 2) (own := [("at", 3), ("row", 4)]) rfl nd rfl rfl (sw_true rfl rfl rfl (by decide +kernel)) (piK_enum (K := K) (by rfl) T.b_enumerate (pa_cons (pe_call Gfirst_rows.ok (hr.mono (by decide)) rfl Gfirst_rows.m Gfirst_rows.kp Gfirst_rows.b .nil pass0 (pa_cons (pv 0) pa_nil)) pa_nil)) (blkOk_by (N := ["kind", "value", "places", "at", "row"]) (sc := defScope s_place_of) (by decide +kernel)) (fun _ _ _ _ _ => (pgK_tup (K := K) (n := 2) rfl (pgs_cons (pg_name (i := 3) nd rfl (Or.inl rfl)) (pgs_cons (pg_name (i := 4) nd rfl (Or.inl rfl)) pgs_nil)))) (fun _ _ _ _ _ => (pts_one (pt_cmpR op_eq (pe_ix (ixK_tup (K := K)) (pv 4) pe_int (fun _ _ => rfl)) (pv 1) (nomark _)))) (fun _ _ _ _ _ => (pv 3)))
  (pss_one (ps_ret (pe_ifExp (pt_cmpR (opK_neD (K := K) hr.units) (pv 2) (pe_lst pa_nil) (nomark _)) (pe_ix (ixK_list (K := K)) (pv 2) pe_int (fun _ _ => rfl)) pe_non))))), ?_⟩), F.bindsN fun _ _ _ _ _ _ us hl => match us, hl with | [_, _], _ => rfl, F.kp, T.m_place_of⟩⟩
  · obtain ⟨_, h, _⟩ := h
    obtain ⟨κ, n, rows, bd, rfl, hk, wf, rfl⟩ := h
    rfl
  · obtain ⟨Pz, h, k⟩ := h
    obtain ⟨κ, n, rows, bd, rfl, hk, wf, rfl⟩ := h
    have hsm := wf.small
    have hln := firstRows_len rows
    refine q_asgL (el_lcS (firstRows rows).length (fun i => decide (((firstRows rows).getD i default).2 = n)) (fun i => vN i) (by omega) (evs_rowsE (gv_call (ea_cons (ev_var rfl) ea_nil) (spg fun H1 e1 => ⟨κ, rows, bd, rfl, hk.mono e1, wf, rfl⟩))) ?_) fun p H1 hp0 e1 hp => ?_
    · rintro J H1 e1 ⟨p, xs, rfl, hp, hr⟩
      rw [← hr.1]
      refine ⟨_, _, walk_enum, fun H2 e2 => sq_of (e2 p _ hp), ?_⟩
      rintro i x H2 H3 hi e2 ⟨T1, x1, x2, rfl, hT, rfl, h1, h2⟩
      cases h1
      obtain ⟨q, aq, hq1, rfl, hq2⟩ := (hr.mono (e2.trans (Ex.new (o := .tup [.int (i : Nat), x2]) hT))).at h2
      rw [getD_of hq1]
      exact ⟨Ex.new hT, _, fun Q q => g_two (st_of upd_same) q, rfl, et_test (ev_op (ev_op (ev_var rfl) ev_c (rv_ixT (st_of hq2) (at_nat (j := 1) rfl))) (ev_var rfl) (rv_is (rv_eq rfl) (congrArg V.bl (eq_nat _ _)))), fun _ => ev_var rfl⟩
    · have e0 : (given (firstRows rows).length (fun i => decide (((firstRows rows).getD i default).2 = n)) fun i => vN i) = ((List.range (firstRows rows).length).filter fun i => decide (((firstRows rows).getD i default).2 = n)).map vN := rfl
      rw [e0] at hp
      generalize ((List.range (firstRows rows).length).filter fun i => decide (((firstRows rows).getD i default).2 = n)) = ns at hp
      refine s_retG (gv_if (et_test (ev_neNil (ev_var rfl) (sq_of hp) (fun H2 _ => dp_nats _) (ok_nats _))) (fun hb => ?_) fun _ => Gv.imp (Ev.gv ev_c) fun _ _ _ _ => trivial) fun v H2 e2 hv => k _ H2 (e1.trans e2) hv
      cases ns with
      | nil => cases hb
      | cons n0 ns => exact Gv.imp (Ev.gv (ev_op (ev_var rfl) ev_c (rv_ixL (sq_of hp) (at_nat (j := 0) rfl)))) fun _ _ _ _ => trivial
/-- the values of one bit -/
def singlesL (rows : List Row) : List Nat := ((firstRows rows).filter fun r => decide (pc r.2 = 1)).map (·.2)
def spSingles (K : PySem.W.Frag) : Sp := mkSp fun vs H P => ∃ (κ : Addr) (rows : List Row) (bd : Str), vs = [.ref κ] ∧ KindAt K H κ rows bd ∧ Wf rows ∧ P = LstV ((singlesL rows).map vN)
theorem ev_lenBits {K : PySem.W.Frag} {σ : L2.St} {H : Hp} {te : TE} {n : Nat} (h : Gv te σ H (fun v H' => ∃ p, v = .ref p ∧ H' p = some (.tup (bitsV n)))) : Ev (tCB (rLenS K) (tCons te tNil)) σ H (vN (pc n)) := fun H1 e Q q =>
  h H1 e _ fun v H2 e2 hv => by
    obtain ⟨p, rfl, hp⟩ := hv
    have e0 : (bitsV n).length = pc n := by
      unfold bitsV pc
      rw [List.length_map]
    refine ⟨p, _, rfl, Or.inr (st_of hp), ?_⟩
    rw [e0]
    exact q H2 e2
theorem sc_singles_of : FnScope ["kind", "word", "value"] ["kind"] (defScope s_singles_of) := ⟨rfl, rfl, rfl, by decide +kernel, rfl, by decide +kernel, by decide +kernel⟩
theorem fn_singles_of (T : Tx P w K mg) : ∃ fd, Fn P w K mg base 5 "singles_of" ["kind"] (spSingles K) fd := by
  obtain ⟨fd, F⟩ := T.f_singles_of
  obtain ⟨fdGbits_of, Gbits_of⟩ := fn_bits_of (base := base) T
  obtain ⟨fdGfirst_rows, Gfirst_rows⟩ := fn_first_rows (base := base) T
  have nd := sc_singles_of.nd
  refine ⟨fd, ⟨F.ok sc_singles_of (fun vs H Q E h => ?_) (fun cdv A outer s H vs Q E hr h => ⟨_, PSs.nox ((pss_one (ps_ret (pe_lc (own := [("word", 1), ("value", 2)]) rfl nd (piK_list (K := K) (pe_call Gfirst_rows.ok (hr.mono (by decide)) rfl Gfirst_rows.m Gfirst_rows.kp Gfirst_rows.b .nil pass0 (pa_cons (pv 0) pa_nil))) (blkOk_by (N := ["kind", "word", "value"]) (sc := defScope s_singles_of) (by decide +kernel)) (fun _ _ _ _ _ => (pgK_tup (K := K) (n := 2) rfl (pgs_cons (pg_name (i := 1) nd rfl (Or.inl rfl)) (pgs_cons (pg_name (i := 2) nd rfl (Or.inl rfl)) pgs_nil)))) (fun _ _ _ _ _ => (pts_one (pt_cmpR op_eq (pe_callB (callK_len (K := K)) (by rfl) T.b_len PySem.boot_len (pa_cons (pe_call Gbits_of.ok (hr.mono (by decide)) rfl Gbits_of.m Gbits_of.kp Gbits_of.b .nil pass0 (pa_cons (pv 2) pa_nil)) pa_nil)) pe_int (nomark _)))) (fun _ _ _ _ _ => (pv 2)))))), ?_⟩), F.bindsN fun _ _ _ _ _ _ us hl => match us, hl with | [_], _ => rfl, F.kp, T.m_singles_of⟩⟩
  · obtain ⟨_, h, _⟩ := h
    obtain ⟨κ, rows, bd, rfl, hk, wf, rfl⟩ := h
    rfl
  · obtain ⟨Pz, h, k⟩ := h
    obtain ⟨κ, rows, bd, rfl, hk, wf, rfl⟩ := h
    have hsm := wf.small
    have hln := firstRows_len rows
    have e0 : (given (firstRows rows).length (fun i => decide (pc ((firstRows rows).getD i default).2 = 1)) fun i => vN ((firstRows rows).getD i default).2) = (singlesL rows).map vN := by
      unfold singlesL
      rw [List.map_map]
      exact given_getD (firstRows rows) (fun r => decide (pc r.2 = 1)) (fun r => vN r.2) _ rfl
    refine s_retG (EvL.gv (el_is (el_lcS (firstRows rows).length (fun i => decide (pc ((firstRows rows).getD i default).2 = 1)) (fun i => vN ((firstRows rows).getD i default).2) (by omega) (evs_rowsL (gv_call (ea_cons (ev_var rfl) ea_nil) (spg fun H1 e1 => ⟨κ, rows, bd, rfl, hk.mono e1, wf, rfl⟩))) ?_) e0)) fun v H1 e1 hv => k _ H1 e1 hv
    rintro J H1 e1 ⟨p, xs, rfl, hp, hr⟩
    rw [← hr.1]
    refine ⟨_, _, walk_list, fun H2 e2 => sq_of (e2 p _ hp), ?_⟩
    rintro i x H2 H3 hi e2 ⟨rfl, h2⟩
    obtain ⟨q, aq, hq1, rfl, hq2⟩ := (hr.mono e2).at h2
    rw [getD_of hq1]
    refine ⟨Ex.refl _, _, fun Q q => g_two (st_of hq2) q, rfl, et_test (ev_op (ev_lenBits (gv_call (ea_cons (ev_var rfl) ea_nil) (spg fun _ _ => ⟨q.2, rfl, wf.vals q (firstRows_mem (List.mem_of_getElem? hq1)), rfl⟩))) ev_c (rv_is (rv_eq rfl) (congrArg V.bl (eq_nat _ 1)))), fun _ => ev_var rfl⟩

end
end EC
end
section
set_option Elab.async false
set_option linter.all false
set_option maxRecDepth 100000
set_option maxHeartbeats 2000000
namespace EC
open PySem PySem.Spec PyProof.Rows L2 Evl
section
variable {P : Program} {w : World} {K : PySem.W.Frag} {mg : Str → Option Value} {base : Heap}
/-- the making of instances of a class -/
structure Ini (P : Program) (w : World) (K : PySem.W.Frag) (mg : Str → Option Value) (base : Heap) (k : Nat) (C : Str) (ps : List Str) (sp : Sp) (fd : FuncData) : Prop where
  ok : FnOk P w K mg base CX0 k (He.ma K (He.ga K C) "__init__") fd ps sp
  b : Binds K fd ps []
  mkC : Mk K (He.ga K C) (He.ma K (He.ga K C) "__init__")
/-- a property's getter -/
structure Pp (P : Program) (w : World) (K : PySem.W.Frag) (mg : Str → Option Value) (base : Heap) (k : Nat) (C m : Str) (ps : List Str) (sp : Sp) (fd : FuncData) : Prop where
  ok : FnOk P w K mg base CX0 k (getAd K C m) fd ps sp
  b : Binds K fd ps []
  mt : PropOf K (He.ga K C) m (He.ma K (He.ga K C) m) (getAd K C m)
section
variable {σ : L2.St} {H : Hp} {ta tv : TE} {D : Ends} {tz : TS} {p C dx : Addr} {fs : List (Str × V)} {v : V} {f : Str} {Pv : V → Hp → Prop}
theorem q_fld (hv : Ev tv σ H v) (ha : Ev ta σ H (.ref p)) (hp : H p = some (.ins C dx fs)) (c : Cls K C) (na : NoAttr K C f) (hl : fs.length < 1000) (k : ∀ H1, Ex H H1 → tz D σ (upd H1 p (.ins C dx (putF f v fs)))) : tSeq (sFld K ta tv f) tz D σ H :=
  hv H (Ex.refl H) _ fun H1 e1 => ha H1 e1 _ fun H2 e2 => ⟨p, C, dx, fs, rfl, (e1.trans e2) p _ hp, c, na, hl, k H2 (e1.trans e2)⟩
theorem q_fldG (hv : Gv tv σ H Pv) (ha : Ev ta σ H (.ref p)) (hp : H p = some (.ins C dx fs)) (c : Cls K C) (na : NoAttr K C f) (hl : fs.length < 1000) (k : ∀ v H1 H2, Ex H H1 → Pv v H1 → Ex H1 H2 → tz D σ (upd H2 p (.ins C dx (putF f v fs)))) : tSeq (sFld K ta tv f) tz D σ H :=
  hv H (Ex.refl H) _ fun v H1 e1 pv => ha H1 e1 _ fun H2 e2 => ⟨p, C, dx, fs, rfl, (e1.trans e2) p _ hp, c, na, hl, k v H1 H2 e1 pv e2⟩
theorem s_fldG (hv : Gv tv σ H Pv) (ha : Ev ta σ H (.ref p)) (hp : H p = some (.ins C dx fs)) (c : Cls K C) (na : NoAttr K C f) (hl : fs.length < 1000) (k : ∀ v H1 H2, Ex H H1 → Pv v H1 → Ex H1 H2 → D.nx σ (upd H2 p (.ins C dx (putF f v fs)))) : sFld K ta tv f D σ H :=
  hv H (Ex.refl H) _ fun v H1 e1 pv => ha H1 e1 _ fun H2 e2 => ⟨p, C, dx, fs, rfl, (e1.trans e2) p _ hp, c, na, hl, k v H1 H2 e1 pv e2⟩
theorem s_fld (hv : Ev tv σ H v) (ha : Ev ta σ H (.ref p)) (hp : H p = some (.ins C dx fs)) (c : Cls K C) (na : NoAttr K C f) (hl : fs.length < 1000) (k : ∀ H1, Ex H H1 → D.nx σ (upd H1 p (.ins C dx (putF f v fs)))) : sFld K ta tv f D σ H :=
  hv H (Ex.refl H) _ fun H1 e1 => ha H1 e1 _ fun H2 e2 => ⟨p, C, dx, fs, rfl, (e1.trans e2) p _ hp, c, na, hl, k H2 (e1.trans e2)⟩
end
/-- the heap at an __init__'s start -/
def AtInit (H0 H : Hp) (C p dx : Addr) : Prop := H0 p = none ∧ H0 dx = none ∧ dx ≠ p ∧ H = upd (upd H0 dx (.own p)) p (.ins C dx [])
theorem AtInit.ex {H0 H : Hp} {C p dx : Addr} (h : AtInit H0 H C p dx) : Ex H0 H := by
  obtain ⟨h1, h2, h3, rfl⟩ := h
  exact Ex.mut (Ex.new h2) h1
theorem AtInit.ins {H0 H : Hp} {C p dx : Addr} (h : AtInit H0 H C p dx) : H p = some (.ins C dx []) := by
  obtain ⟨h1, h2, h3, rfl⟩ := h
  exact upd_same
/-- FlagMember(kind, n) -/
def spMemInit (K : PySem.W.Frag) : Sp := fun vs H Q _ => ∃ (p κ : Addr) (n : Nat) (H0 : Hp) (dx : Addr) (rows : List Row) (bd : Str), vs = [.ref p, .ref κ, vN n] ∧ AtInit H0 H (C_FlagMember K) p dx ∧ KindAt K H0 κ rows bd ∧ Wf rows ∧ ∀ H2, Ex H0 H2 → Mem K H2 p κ n → Q .non H2
theorem el_cut {σ : L2.St} {H : Hp} {ta : TE} {a : Addr} {xs : List V} {lo hi : Option Int} {tl th : TO} (h : Ev ta σ H (.ref a)) (h1 : EvO tl σ H lo) (h2 : EvO th σ H hi) (hs : SqL K H a xs) : EvL (tSl (rSlL K) ta tl th) σ H (cutV xs lo hi) := el_sl h h1 h2 hs
theorem sc_FlagMember_init : FnScope ["self", "kind", "value", "words"] ["self", "kind", "value"] (defScope s_FlagMember_init) := ⟨rfl, rfl, rfl, by decide +kernel, rfl, by decide +kernel, by decide +kernel⟩
theorem in_FlagMember (T : Tx P w K mg) : ∃ fd, Ini P w K mg base 4 "FlagMember" ["self", "kind", "value"] (spMemInit K) fd := by
  obtain ⟨fd, F⟩ := T.f_FlagMember_init
  obtain ⟨fdGnames_of, Gnames_of⟩ := fn_names_of (base := base) T
  obtain ⟨fdGplace_of, Gplace_of⟩ := fn_place_of (base := base) T
  have nd := sc_FlagMember_init.nd
  refine ⟨fd, ⟨F.ok sc_FlagMember_init (fun vs H Q E h => ?_) (fun cdv A outer s H vs Q E hr h => ⟨_, PSs.nox ((pss_cons (ps_set (i := 3) nd rfl (Or.inl rfl) (pe_call Gnames_of.ok (hr.mono (by decide)) rfl Gnames_of.m Gnames_of.kp Gnames_of.b .nil pass0 (pa_cons (pv 1) (pa_cons (pv 2) pa_nil))))
  (pss_cons (ps_fld (pv 0) (pv 1) rfl)
  (pss_cons (ps_fld (pv 0) (pv 2) rfl)
  (pss_cons (ps_fld (pv 0) (pe_ifExp (pt_cmpR (opK_neD (K := K) hr.units) (pv 3) (pe_lst pa_nil) (nomark _)) (pe_ix (ixK_list (K := K)) (pv 3) pe_int (fun _ _ => rfl)) pe_non) rfl)
  (pss_cons (ps_fld (pv 0) (pe_callTy (callK_tuple (K := K)) (by rfl) T.b_tuple bo_tuple (pa_cons (pe_slice (slK_list (K := K)) (pv 3) (po_some pe_int) po_none) pa_nil)) rfl)
  (pss_one (ps_fld (pv 0) (pe_call Gplace_of.ok (hr.mono (by decide)) rfl Gplace_of.m Gplace_of.kp Gplace_of.b .nil pass0 (pa_cons (pv 1) (pa_cons (pv 2) pa_nil))) rfl)))))))), ?_⟩), F.bindsN fun _ _ _ _ _ _ us hl => match us, hl with | [_, _, _], _ => rfl, T.mk_FlagMember⟩⟩
  · obtain ⟨p, κ, n, H0, dx, rows, bd, rfl, hi, hk, wf, k⟩ := h
    rfl
  · obtain ⟨p, κ, n, H0, dx, rows, bd, rfl, hi, hk, wf, k⟩ := h
    have hc := T.c_FlagMember
    refine q_asgG (gv_call (ea_cons (ev_var rfl) (ea_cons (ev_var rfl) ea_nil)) (spg fun H1 e1 => ⟨κ, n, rows, bd, rfl, hk.mono (hi.ex.trans e1), wf, rfl⟩)) fun v H1 e1 hv => ?_
    obtain ⟨wp, zs, rfl, hz60, hzo, hw⟩ := hv
    have x1 := hi.ex.trans e1
    have nwp : wp ≠ p := by
      intro z
      have h1 := e1 p _ hi.ins
      rw [z, h1] at hw
      cases hw
    refine q_fld (v := .ref κ) (ev_var rfl) (ev_var rfl) (e1 p _ hi.ins) hc T.na_FlagMember_own_kind (by decide) fun H2 e2 => ?_
    have x2 : Ex H0 (upd H2 p (.ins (C_FlagMember K) dx (putF "own_kind" (.ref κ) []))) := Ex.mut (x1.trans e2) hi.1
    have w2 : (upd H2 p (.ins (C_FlagMember K) dx (putF "own_kind" (.ref κ) []))) wp = some (.lst (zs.map V.str)) := by
      rw [upd_ne nwp]
      exact e2 wp _ hw
    refine q_fld (v := vN n) (ev_var rfl) (ev_var rfl) upd_same hc T.na_FlagMember_own_value (by show (1 : Nat) < 1000; decide) fun H3 e3 => ?_
    have x3 := Ex.mut (o := .ins (C_FlagMember K) dx (putF "own_value" (vN n) (putF "own_kind" (.ref κ) []))) (x2.trans e3) hi.1
    have w3 : (upd H3 p (.ins (C_FlagMember K) dx (putF "own_value" (vN n) (putF "own_kind" (.ref κ) [])))) wp = some (.lst (zs.map V.str)) := by
      rw [upd_ne nwp]
      exact e3 wp _ w2
    refine q_fldG (Pv := AnyV) (gv_if (et_test (ev_neNil (ev_var rfl) (sq_of w3) (fun H2 _ => dp_strs _) (ok_strs hzo))) (fun hb => ?_) fun _ => Gv.imp (Ev.gv ev_c) fun _ _ _ _ => trivial) (ev_var rfl) upd_same hc T.na_FlagMember_own_name (by show (2 : Nat) < 1000; decide) fun va H4 H5 e4 _ e5 => ?_
    · cases zs with
      | nil => cases hb
      | cons z0 zs => exact Gv.imp (Ev.gv (ev_op (ev_var rfl) ev_c (rv_ixL (sq_of w3) (at_nat (j := 0) rfl)))) fun _ _ _ _ => trivial
    have x5 := Ex.mut (o := .ins (C_FlagMember K) dx (putF "own_name" va (putF "own_value" (vN n) (putF "own_kind" (.ref κ) [])))) (x3.trans (e4.trans e5)) hi.1
    have w5 : (upd H5 p (.ins (C_FlagMember K) dx (putF "own_name" va (putF "own_value" (vN n) (putF "own_kind" (.ref κ) []))))) wp = some (.lst (zs.map V.str)) := by
      rw [upd_ne nwp]
      exact (e4.trans e5) wp _ w3
    refine q_fldG (Pv := AnyV) (Gv.imp (EvU.gv (P := AnyV) (eu_tupN (el_sl (ev_var rfl) (eo_some ev_c) eo_none (sq_of w5))) fun _ _ _ => trivial) fun _ _ _ _ => trivial) (ev_var rfl) upd_same hc T.na_FlagMember_own_aliases (by show (3 : Nat) < 1000; decide) fun vb H6 H7 e6 _ e7 => ?_
    have x7 := Ex.mut (o := .ins (C_FlagMember K) dx (putF "own_aliases" vb (putF "own_name" va (putF "own_value" (vN n) (putF "own_kind" (.ref κ) []))))) (x5.trans (e6.trans e7)) hi.1
    refine s_fldG (gv_call (ea_cons (ev_var rfl) (ea_cons (ev_var rfl) ea_nil)) (spg fun H1 e1 => ⟨κ, n, rows, bd, rfl, hk.mono (x7.trans e1), wf, rfl⟩)) (ev_var rfl) upd_same hc T.na_FlagMember_own_place (by show (4 : Nat) < 1000; decide) fun vc H8 H9 e8 _ e9 => ?_
    exact k _ (Ex.mut (x7.trans (e8.trans e9)) hi.1) ⟨dx, va, vb, vc, upd_same⟩

end
end EC
end
section
set_option Elab.async false
set_option linter.all false
set_option maxRecDepth 100000
set_option maxHeartbeats 2000000
namespace EC
open PySem PySem.Spec PyProof.Rows L2 Evl
section
variable {P : Program} {w : World} {K : PySem.W.Frag} {mg : Str → Option Value} {base : Heap}
section
variable {σ : L2.St} {H : Hp} {ta tb : TE} {t : TA} {P0 : V → Hp → Prop} {sp : Sp} {vs : List V} {E : XK} {p κ : Addr} {n : Nat} {m : Str} {z : V}
theorem gv_meth {C dx : Addr} {fs : List (Str × V)} (ha : Ev ta σ H (.ref p)) (hp : H p = some (.ins C dx fs)) (hl : fs.lookup m = none) (ht : EvA t σ H vs) (hs : SpG sp (.ref p :: vs) H P0) : Gv (tMeth C m sp [] E ta t) σ H P0 := fun H1 e Q q =>
  ha H1 e _ fun H2 e2 => ⟨p, dx, fs, rfl, (e.trans e2) p _ hp, hl, ht H2 (e.trans e2) _ fun H3 e3 => by
    show sp (.ref p :: (vs ++ [])) H3 Q E
    rw [List.append_nil]
    exact hs H3 ((e.trans e2).trans e3) Q (fun v H4 e4 pv => q v H4 ((e2.trans e3).trans e4) pv) E⟩
theorem gv_mem (ha : Ev ta σ H (.ref p)) (hm : Mem K H p κ n) (hl : ∀ a b c, (memFs κ n a b c).lookup m = none) (ht : EvA t σ H vs) (hs : SpG sp (.ref p :: vs) H P0) : Gv (tMeth (C_FlagMember K) m sp [] E ta t) σ H P0 := by
  obtain ⟨dx, a, b, c, hm⟩ := hm
  exact gv_meth ha hm (hl a b c) ht hs
theorem ev_mem (ha : Ev ta σ H (.ref p)) (hm : Mem K H p κ n) (hl : ∀ a b c, (memFs κ n a b c).lookup m = none) (ht : EvA t σ H vs) (hs : SpV sp (.ref p :: vs) H z) : Ev (tMeth (C_FlagMember K) m sp [] E ta t) σ H z :=
  Gv.ev (gv_mem ha hm hl ht fun H1 e Q q E => hs H1 e Q (fun H2 e2 => q z H2 e2 rfl) E)
/-- a new member -/
def IsMb (K : PySem.W.Frag) (κ : Addr) (n : Nat) : V → Hp → Prop := fun v H' => ∃ p, v = .ref p ∧ Mem K H' p κ n
theorem gv_make {rows : List Row} {bd : Str} (ht : EvA t σ H [.ref κ, vN n]) (hk : KindAt K H κ rows bd) (wf : Wf rows) : Gv (tMake (C_FlagMember K) (spMemInit K) [] E t) σ H (IsMb K κ n) := fun H1 e Q q =>
  ht H1 e _ fun H2 e2 x dx hx hdx hne => ⟨x, κ, n, H2, dx, rows, bd, rfl, ⟨hx, hdx, hne, rfl⟩, hk.mono (e.trans e2), wf, fun H3 e3 hm => ⟨rfl, q _ H3 (e2.trans e3) ⟨x, rfl, hm⟩⟩⟩
end
/-- two members of one kind -/
structure Two (K : PySem.W.Frag) (H : Hp) (p q κ : Addr) (n m : Nat) (rows : List Row) (bd : Str) : Prop where
  p : Mem K H p κ n
  q : Mem K H q κ m
  k : KindAt K H κ rows bd
  wf : Wf rows
  n : lt40 n
  m : lt40 m
theorem Two.mono {H H' : Hp} {p q κ : Addr} {n m : Nat} {rows : List Row} {bd : Str} (e : Ex H H') (t : Two K H p q κ n m rows bd) : Two K H' p q κ n m rows bd := ⟨t.p.mono e, t.q.mono e, t.k.mono e, t.wf, t.n, t.m⟩
def spTwo (K : PySem.W.Frag) (G : Addr → Nat → Nat → V → Hp → Prop) : Sp := mkSp fun vs H P => ∃ (p q κ : Addr) (n m : Nat) (rows : List Row) (bd : Str), vs = [.ref p, .ref q] ∧ Two K H p q κ n m rows bd ∧ P = G κ n m
abbrev gB (f : Nat → Nat → Bool) : Addr → Nat → Nat → V → Hp → Prop := fun _ n m => IsV (.bl (f n m))
abbrev gM (K : PySem.W.Frag) (f : Nat → Nat → Nat) : Addr → Nat → Nat → V → Hp → Prop := fun κ n m => IsMb K κ (f n m)
theorem rv_same {H : Hp} {κ : Addr} {rows : List Row} {bd : Str} (hk : KindAt K H κ rows bd) : RV (rSame (C_Kind K)) (.ref κ) (.ref κ) H (.bl true) := fun H1 e Q q => by
  obtain ⟨dx, r, nm, bs, st, ln, hk⟩ := hk
  have h := e _ _ hk.ins
  refine ⟨κ, κ, dx, dx, _, _, rfl, rfl, h, h, ?_⟩
  have e0 : decide (κ = κ) = true := decide_eq_true rfl
  rw [e0]
  exact q H1 (Ex.refl H1)
theorem sc_FlagMember_is_beside : FnScope ["self", "other"] ["self", "other"] (defScope s_FlagMember_is_beside) := ⟨rfl, rfl, rfl, by decide +kernel, rfl, by decide +kernel, by decide +kernel⟩
theorem me_FlagMember_is_beside (T : Tx P w K mg) : ∃ fd, Me P w K mg base 2 "FlagMember" "is_beside" ["self", "other"] (spTwo K (gB fun _ _ => true)) fd := by
  obtain ⟨fd, F⟩ := T.f_FlagMember_is_beside
  have nd := sc_FlagMember_is_beside.nd
  refine ⟨fd, ⟨F.ok sc_FlagMember_is_beside (fun vs H Q E h => ?_) (fun cdv A outer s H vs Q E hr h => ⟨_, PSs.nox ((pss_one (ps_ret (pe_and (pe_callB (callK_isi (K := K)) (by rfl) T.b_isinstance bo_isinstance (pa_cons (pv 1) (pa_cons (pe_gR rfl T.m_FlagMember) pa_nil))) (pe_one (pe_cmpR (op_sameO T.k_obj T.k_eq (n := 1) (hr.mono (by decide))) (pe_fldK (K := K) (pv 0) rfl) (pe_fldK (K := K) (pv 1) rfl) (nomark _))))))), ?_⟩), F.bindsN fun _ _ _ _ _ _ us hl => match us, hl with | [_, _], _ => rfl, T.mt_FlagMember_is_beside⟩⟩
  · obtain ⟨_, h, _⟩ := h
    obtain ⟨p, q, κ, n, m, rows, bd, rfl, h2, rfl⟩ := h
    rfl
  · obtain ⟨Pz, h, k⟩ := h
    obtain ⟨p, q, κ, n, m, rows, bd, rfl, h2, rfl⟩ := h
    obtain ⟨dx, a, b, c, hq⟩ := h2.q
    exact s_ret (ev_andV (a := true) (b := true) (ei_fm T (ev_var rfl) hq T.kit_fm_f) fun _ => ev_op (f_kind T (ev_var rfl) h2.p) (f_kind T (ev_var rfl) h2.q) (rv_same h2.k)) fun H1 e1 => k _ H1 e1 rfl
theorem sc_FlagMember_need_beside : FnScope ["self", "other"] ["self", "other"] (defScope s_FlagMember_need_beside) := ⟨rfl, rfl, rfl, by decide +kernel, rfl, by decide +kernel, by decide +kernel⟩
theorem me_FlagMember_need_beside (T : Tx P w K mg) : ∃ fd, Me P w K mg base 3 "FlagMember" "need_beside" ["self", "other"] (spTwo K fun _ _ _ => IsV .non) fd := by
  obtain ⟨fd, F⟩ := T.f_FlagMember_need_beside
  obtain ⟨fdMis_beside, Mis_beside⟩ := me_FlagMember_is_beside (base := base) T
  have nd := sc_FlagMember_need_beside.nd
  refine ⟨fd, ⟨F.ok sc_FlagMember_need_beside (fun vs H Q E h => ?_) (fun cdv A outer s H vs Q E hr h => ⟨_, PSs.nox ((pss_one (ps_if (pt_not (pt_val (pe_meth (pv 0) T.c_FlagMember Mis_beside.mt Mis_beside.ok (hr.mono (by decide)) Mis_beside.b .nil pass0 (pa_cons (pv 1) pa_nil)))) (pss_one ps_never) pss_nil))), ?_⟩), F.bindsN fun _ _ _ _ _ _ us hl => match us, hl with | [_, _], _ => rfl, T.mt_FlagMember_need_beside⟩⟩
  · obtain ⟨_, h, _⟩ := h
    obtain ⟨p, q, κ, n, m, rows, bd, rfl, h2, rfl⟩ := h
    rfl
  · obtain ⟨Pz, h, k⟩ := h
    obtain ⟨p, q, κ, n, m, rows, bd, rfl, h2, rfl⟩ := h
    exact s_when (b := false) (et_not (a := true) (et_B (ev_mem (ev_var rfl) h2.p (fun _ _ _ => rfl) (ea_cons (ev_var rfl) ea_nil) (spv fun H1 e1 => ⟨p, q, κ, n, m, rows, bd, rfl, h2.mono e1, rfl⟩)))) (fun z => nomatch z) fun _ H1 e1 => k _ H1 e1 rfl
def spJoin (K : PySem.W.Frag) : Sp := mkSp fun vs H P => ∃ (p κ : Addr) (n m : Nat) (rows : List Row) (bd : Str), vs = [.ref p, vN m] ∧ Mem K H p κ n ∧ KindAt K H κ rows bd ∧ Wf rows ∧ P = IsMb K κ m
theorem sc_FlagMember_joined_with : FnScope ["self", "bits"] ["self", "bits"] (defScope s_FlagMember_joined_with) := ⟨rfl, rfl, rfl, by decide +kernel, rfl, by decide +kernel, by decide +kernel⟩
theorem me_FlagMember_joined_with (T : Tx P w K mg) : ∃ fd, Me P w K mg base 6 "FlagMember" "joined_with" ["self", "bits"] (spJoin K) fd := by
  obtain ⟨fd, F⟩ := T.f_FlagMember_joined_with
  obtain ⟨fdI_FlagMember, I_FlagMember⟩ := in_FlagMember (base := base) T
  have nd := sc_FlagMember_joined_with.nd
  refine ⟨fd, ⟨F.ok sc_FlagMember_joined_with (fun vs H Q E h => ?_) (fun cdv A outer s H vs Q E hr h => ⟨_, PSs.nox ((pss_one (ps_ret (pe_make I_FlagMember.mkC I_FlagMember.ok (hr.mono (by decide)) rfl T.m_FlagMember I_FlagMember.b .nil pass0 (pa_cons (pe_fldK (K := K) (pv 0) rfl) (pa_cons (pv 1) pa_nil)))))), ?_⟩), F.bindsN fun _ _ _ _ _ _ us hl => match us, hl with | [_, _], _ => rfl, T.mt_FlagMember_joined_with⟩⟩
  · obtain ⟨_, h, _⟩ := h
    obtain ⟨p, κ, n, m, rows, bd, rfl, hp, hk, wf, rfl⟩ := h
    rfl
  · obtain ⟨Pz, h, k⟩ := h
    obtain ⟨p, κ, n, m, rows, bd, rfl, hp, hk, wf, rfl⟩ := h
    exact s_retG (gv_make (ea_cons (f_kind T (ev_var rfl) hp) (ea_cons (ev_var rfl) ea_nil)) hk wf) fun v H1 e1 hv => k v H1 e1 hv
theorem sc_FlagMember_or : FnScope ["self", "other"] ["self", "other"] (defScope s_FlagMember_or) := ⟨rfl, rfl, rfl, by decide +kernel, rfl, by decide +kernel, by decide +kernel⟩
theorem me_FlagMember_or (T : Tx P w K mg) : ∃ fd, Me P w K mg base 7 "FlagMember" "__or__" ["self", "other"] (spTwo K (gM K fun n m => n ||| m)) fd := by
  obtain ⟨fd, F⟩ := T.f_FlagMember_or
  obtain ⟨fdMjoined_with, Mjoined_with⟩ := me_FlagMember_joined_with (base := base) T
  obtain ⟨fdMneed_beside, Mneed_beside⟩ := me_FlagMember_need_beside (base := base) T
  have nd := sc_FlagMember_or.nd
  refine ⟨fd, ⟨F.ok sc_FlagMember_or (fun vs H Q E h => ?_) (fun cdv A outer s H vs Q E hr h => ⟨_, PSs.nox ((pss_cons (ps_expr (pe_meth (pv 0) T.c_FlagMember Mneed_beside.mt Mneed_beside.ok (hr.mono (by decide)) Mneed_beside.b .nil pass0 (pa_cons (pv 1) pa_nil)))
  (pss_one (ps_ret (pe_meth (pv 0) T.c_FlagMember Mjoined_with.mt Mjoined_with.ok (hr.mono (by decide)) Mjoined_with.b .nil pass0 (pa_cons (pe_op op_or (pe_fldK (K := K) (pv 0) rfl) (pe_fldK (K := K) (pv 1) rfl)) pa_nil)))))), ?_⟩), F.bindsN fun _ _ _ _ _ _ us hl => match us, hl with | [_, _], _ => rfl, T.mt_FlagMember_or⟩⟩
  · obtain ⟨_, h, _⟩ := h
    obtain ⟨p, q, κ, n, m, rows, bd, rfl, h2, rfl⟩ := h
    rfl
  · obtain ⟨Pz, h, k⟩ := h
    obtain ⟨p, q, κ, n, m, rows, bd, rfl, h2, rfl⟩ := h
    refine q_drop (ev_mem (ev_var rfl) h2.p (fun _ _ _ => rfl) (ea_cons (ev_var rfl) ea_nil) (spv fun H1 e1 => ⟨p, q, κ, n, m, rows, bd, rfl, h2.mono e1, rfl⟩)) fun H1 e1 => ?_
    have h3 := h2.mono e1
    refine s_retG (gv_mem (ev_var rfl) h3.p (fun _ _ _ => rfl) (ea_cons (ev_is (ev_op (f_val T (ev_var rfl) h3.p) (f_val T (ev_var rfl) h3.q) rv_I0) (congrArg V.int (bO n m))) ea_nil) (spg fun H2 e2 => ⟨p, κ, n, _, rows, bd, rfl, h3.p.mono e2, h3.k.mono e2, h3.wf, rfl⟩)) fun v H2 e2 hv => k v H2 (e1.trans e2) hv
theorem sc_FlagMember_and : FnScope ["self", "other"] ["self", "other"] (defScope s_FlagMember_and) := ⟨rfl, rfl, rfl, by decide +kernel, rfl, by decide +kernel, by decide +kernel⟩
theorem me_FlagMember_and (T : Tx P w K mg) : ∃ fd, Me P w K mg base 7 "FlagMember" "__and__" ["self", "other"] (spTwo K (gM K fun n m => n &&& m)) fd := by
  obtain ⟨fd, F⟩ := T.f_FlagMember_and
  obtain ⟨fdMjoined_with, Mjoined_with⟩ := me_FlagMember_joined_with (base := base) T
  obtain ⟨fdMneed_beside, Mneed_beside⟩ := me_FlagMember_need_beside (base := base) T
  have nd := sc_FlagMember_and.nd
  refine ⟨fd, ⟨F.ok sc_FlagMember_and (fun vs H Q E h => ?_) (fun cdv A outer s H vs Q E hr h => ⟨_, PSs.nox ((pss_cons (ps_expr (pe_meth (pv 0) T.c_FlagMember Mneed_beside.mt Mneed_beside.ok (hr.mono (by decide)) Mneed_beside.b .nil pass0 (pa_cons (pv 1) pa_nil)))
  (pss_one (ps_ret (pe_meth (pv 0) T.c_FlagMember Mjoined_with.mt Mjoined_with.ok (hr.mono (by decide)) Mjoined_with.b .nil pass0 (pa_cons (pe_op op_and (pe_fldK (K := K) (pv 0) rfl) (pe_fldK (K := K) (pv 1) rfl)) pa_nil)))))), ?_⟩), F.bindsN fun _ _ _ _ _ _ us hl => match us, hl with | [_, _], _ => rfl, T.mt_FlagMember_and⟩⟩
  · obtain ⟨_, h, _⟩ := h
    obtain ⟨p, q, κ, n, m, rows, bd, rfl, h2, rfl⟩ := h
    rfl
  · obtain ⟨Pz, h, k⟩ := h
    obtain ⟨p, q, κ, n, m, rows, bd, rfl, h2, rfl⟩ := h
    refine q_drop (ev_mem (ev_var rfl) h2.p (fun _ _ _ => rfl) (ea_cons (ev_var rfl) ea_nil) (spv fun H1 e1 => ⟨p, q, κ, n, m, rows, bd, rfl, h2.mono e1, rfl⟩)) fun H1 e1 => ?_
    have h3 := h2.mono e1
    refine s_retG (gv_mem (ev_var rfl) h3.p (fun _ _ _ => rfl) (ea_cons (ev_is (ev_op (f_val T (ev_var rfl) h3.p) (f_val T (ev_var rfl) h3.q) rv_I0) (congrArg V.int (bA n m))) ea_nil) (spg fun H2 e2 => ⟨p, κ, n, _, rows, bd, rfl, h3.p.mono e2, h3.k.mono e2, h3.wf, rfl⟩)) fun v H2 e2 hv => k v H2 (e1.trans e2) hv
theorem sc_FlagMember_xor : FnScope ["self", "other"] ["self", "other"] (defScope s_FlagMember_xor) := ⟨rfl, rfl, rfl, by decide +kernel, rfl, by decide +kernel, by decide +kernel⟩
theorem me_FlagMember_xor (T : Tx P w K mg) : ∃ fd, Me P w K mg base 7 "FlagMember" "__xor__" ["self", "other"] (spTwo K (gM K fun n m => n ^^^ m)) fd := by
  obtain ⟨fd, F⟩ := T.f_FlagMember_xor
  obtain ⟨fdMjoined_with, Mjoined_with⟩ := me_FlagMember_joined_with (base := base) T
  obtain ⟨fdMneed_beside, Mneed_beside⟩ := me_FlagMember_need_beside (base := base) T
  have nd := sc_FlagMember_xor.nd
  refine ⟨fd, ⟨F.ok sc_FlagMember_xor (fun vs H Q E h => ?_) (fun cdv A outer s H vs Q E hr h => ⟨_, PSs.nox ((pss_cons (ps_expr (pe_meth (pv 0) T.c_FlagMember Mneed_beside.mt Mneed_beside.ok (hr.mono (by decide)) Mneed_beside.b .nil pass0 (pa_cons (pv 1) pa_nil)))
  (pss_one (ps_ret (pe_meth (pv 0) T.c_FlagMember Mjoined_with.mt Mjoined_with.ok (hr.mono (by decide)) Mjoined_with.b .nil pass0 (pa_cons (pe_op op_xor (pe_fldK (K := K) (pv 0) rfl) (pe_fldK (K := K) (pv 1) rfl)) pa_nil)))))), ?_⟩), F.bindsN fun _ _ _ _ _ _ us hl => match us, hl with | [_, _], _ => rfl, T.mt_FlagMember_xor⟩⟩
  · obtain ⟨_, h, _⟩ := h
    obtain ⟨p, q, κ, n, m, rows, bd, rfl, h2, rfl⟩ := h
    rfl
  · obtain ⟨Pz, h, k⟩ := h
    obtain ⟨p, q, κ, n, m, rows, bd, rfl, h2, rfl⟩ := h
    refine q_drop (ev_mem (ev_var rfl) h2.p (fun _ _ _ => rfl) (ea_cons (ev_var rfl) ea_nil) (spv fun H1 e1 => ⟨p, q, κ, n, m, rows, bd, rfl, h2.mono e1, rfl⟩)) fun H1 e1 => ?_
    have h3 := h2.mono e1
    refine s_retG (gv_mem (ev_var rfl) h3.p (fun _ _ _ => rfl) (ea_cons (ev_is (ev_op (f_val T (ev_var rfl) h3.p) (f_val T (ev_var rfl) h3.q) rv_I0) (congrArg V.int (bX n m))) ea_nil) (spg fun H2 e2 => ⟨p, κ, n, _, rows, bd, rfl, h3.p.mono e2, h3.k.mono e2, h3.wf, rfl⟩)) fun v H2 e2 hv => k v H2 (e1.trans e2) hv
theorem ru_inv {H : Hp} {i : Int} : RU (rU fun i => .int (Builtin.bitNot i)) (.int i) H (.int (Builtin.bitNot i)) := fun H1 _ _ q => ⟨i, rfl, q H1 (Ex.refl H1)⟩
theorem sc_FlagMember_sub : FnScope ["self", "other"] ["self", "other"] (defScope s_FlagMember_sub) := ⟨rfl, rfl, rfl, by decide +kernel, rfl, by decide +kernel, by decide +kernel⟩
theorem me_FlagMember_sub (T : Tx P w K mg) : ∃ fd, Me P w K mg base 7 "FlagMember" "__sub__" ["self", "other"] (spTwo K (gM K fun n m => andn n m)) fd := by
  obtain ⟨fd, F⟩ := T.f_FlagMember_sub
  obtain ⟨fdMjoined_with, Mjoined_with⟩ := me_FlagMember_joined_with (base := base) T
  obtain ⟨fdMneed_beside, Mneed_beside⟩ := me_FlagMember_need_beside (base := base) T
  have nd := sc_FlagMember_sub.nd
  refine ⟨fd, ⟨F.ok sc_FlagMember_sub (fun vs H Q E h => ?_) (fun cdv A outer s H vs Q E hr h => ⟨_, PSs.nox ((pss_cons (ps_expr (pe_meth (pv 0) T.c_FlagMember Mneed_beside.mt Mneed_beside.ok (hr.mono (by decide)) Mneed_beside.b .nil pass0 (pa_cons (pv 1) pa_nil)))
  (pss_one (ps_ret (pe_meth (pv 0) T.c_FlagMember Mjoined_with.mt Mjoined_with.ok (hr.mono (by decide)) Mjoined_with.b .nil pass0 (pa_cons (pe_op op_and (pe_fldK (K := K) (pv 0) rfl) (pe_un un_inv (pe_fldK (K := K) (pv 1) rfl))) pa_nil)))))), ?_⟩), F.bindsN fun _ _ _ _ _ _ us hl => match us, hl with | [_, _], _ => rfl, T.mt_FlagMember_sub⟩⟩
  · obtain ⟨_, h, _⟩ := h
    obtain ⟨p, q, κ, n, m, rows, bd, rfl, h2, rfl⟩ := h
    rfl
  · obtain ⟨Pz, h, k⟩ := h
    obtain ⟨p, q, κ, n, m, rows, bd, rfl, h2, rfl⟩ := h
    refine q_drop (ev_mem (ev_var rfl) h2.p (fun _ _ _ => rfl) (ea_cons (ev_var rfl) ea_nil) (spv fun H1 e1 => ⟨p, q, κ, n, m, rows, bd, rfl, h2.mono e1, rfl⟩)) fun H1 e1 => ?_
    have h3 := h2.mono e1
    refine s_retG (gv_mem (ev_var rfl) h3.p (fun _ _ _ => rfl) (ea_cons (ev_is (ev_op (f_val T (ev_var rfl) h3.p) (ev_un (f_val T (ev_var rfl) h3.q) ru_inv) rv_I0) (congrArg V.int (bN n m))) ea_nil) (spg fun H2 e2 => ⟨p, κ, n, _, rows, bd, rfl, h3.p.mono e2, h3.k.mono e2, h3.wf, rfl⟩)) fun v H2 e2 hv => k v H2 (e1.trans e2) hv
def leB (n m : Nat) : Bool := decide (n &&& m = n)
theorem rv_and {H : Hp} {n m : Nat} : RV (rI0 fun i j => .int (Builtin.bitAnd i j)) (vN n) (vN m) H (vN (n &&& m)) := rv_is rv_I0 (congrArg V.int (bA n m))
theorem rv_eqN {H : Hp} {a b : Nat} : RV rEq (vN a) (vN b) H (.bl (decide (a = b))) := rv_is (rv_eq rfl) (congrArg V.bl (eq_nat a b))
theorem rv_neN {H : Hp} {a b : Nat} : RV rNe (vN a) (vN b) H (.bl (!decide (a = b))) := rv_is (rv_ne rfl) (congrArg (fun b => V.bl (!b)) (eq_nat a b))
theorem sc_FlagMember_le : FnScope ["self", "other"] ["self", "other"] (defScope s_FlagMember_le) := ⟨rfl, rfl, rfl, by decide +kernel, rfl, by decide +kernel, by decide +kernel⟩
theorem me_FlagMember_le (T : Tx P w K mg) : ∃ fd, Me P w K mg base 4 "FlagMember" "__le__" ["self", "other"] (spTwo K (gB leB)) fd := by
  obtain ⟨fd, F⟩ := T.f_FlagMember_le
  obtain ⟨fdMneed_beside, Mneed_beside⟩ := me_FlagMember_need_beside (base := base) T
  have nd := sc_FlagMember_le.nd
  refine ⟨fd, ⟨F.ok sc_FlagMember_le (fun vs H Q E h => ?_) (fun cdv A outer s H vs Q E hr h => ⟨_, PSs.nox ((pss_cons (ps_expr (pe_meth (pv 0) T.c_FlagMember Mneed_beside.mt Mneed_beside.ok (hr.mono (by decide)) Mneed_beside.b .nil pass0 (pa_cons (pv 1) pa_nil)))
  (pss_one (ps_ret (pe_cmpR op_eq (pe_op op_and (pe_fldK (K := K) (pv 0) rfl) (pe_fldK (K := K) (pv 1) rfl)) (pe_fldK (K := K) (pv 0) rfl) (nomark _)))))), ?_⟩), F.bindsN fun _ _ _ _ _ _ us hl => match us, hl with | [_, _], _ => rfl, T.mt_FlagMember_le⟩⟩
  · obtain ⟨_, h, _⟩ := h
    obtain ⟨p, q, κ, n, m, rows, bd, rfl, h2, rfl⟩ := h
    rfl
  · obtain ⟨Pz, h, k⟩ := h
    obtain ⟨p, q, κ, n, m, rows, bd, rfl, h2, rfl⟩ := h
    refine q_drop (ev_mem (ev_var rfl) h2.p (fun _ _ _ => rfl) (ea_cons (ev_var rfl) ea_nil) (spv fun H1 e1 => ⟨p, q, κ, n, m, rows, bd, rfl, h2.mono e1, rfl⟩)) fun H1 e1 => ?_
    have h3 := h2.mono e1
    exact s_ret (ev_op (ev_op (f_val T (ev_var rfl) h3.p) (f_val T (ev_var rfl) h3.q) rv_and) (f_val T (ev_var rfl) h3.p) rv_eqN) fun H2 e2 => k _ H2 (e1.trans e2) rfl
def ltB (n m : Nat) : Bool := !decide (n = m) && leB n m
theorem sc_FlagMember_lt : FnScope ["self", "other"] ["self", "other"] (defScope s_FlagMember_lt) := ⟨rfl, rfl, rfl, by decide +kernel, rfl, by decide +kernel, by decide +kernel⟩
theorem me_FlagMember_lt (T : Tx P w K mg) : ∃ fd, Me P w K mg base 4 "FlagMember" "__lt__" ["self", "other"] (spTwo K (gB ltB)) fd := by
  obtain ⟨fd, F⟩ := T.f_FlagMember_lt
  obtain ⟨fdMneed_beside, Mneed_beside⟩ := me_FlagMember_need_beside (base := base) T
  have nd := sc_FlagMember_lt.nd
  refine ⟨fd, ⟨F.ok sc_FlagMember_lt (fun vs H Q E h => ?_) (fun cdv A outer s H vs Q E hr h => ⟨_, PSs.nox ((pss_cons (ps_expr (pe_meth (pv 0) T.c_FlagMember Mneed_beside.mt Mneed_beside.ok (hr.mono (by decide)) Mneed_beside.b .nil pass0 (pa_cons (pv 1) pa_nil)))
  (pss_one (ps_ret (pe_and (pe_cmpR op_ne (pe_fldK (K := K) (pv 0) rfl) (pe_fldK (K := K) (pv 1) rfl) (nomark _)) (pe_one (pe_cmpR op_eq (pe_op op_and (pe_fldK (K := K) (pv 0) rfl) (pe_fldK (K := K) (pv 1) rfl)) (pe_fldK (K := K) (pv 0) rfl) (nomark _)))))))), ?_⟩), F.bindsN fun _ _ _ _ _ _ us hl => match us, hl with | [_, _], _ => rfl, T.mt_FlagMember_lt⟩⟩
  · obtain ⟨_, h, _⟩ := h
    obtain ⟨p, q, κ, n, m, rows, bd, rfl, h2, rfl⟩ := h
    rfl
  · obtain ⟨Pz, h, k⟩ := h
    obtain ⟨p, q, κ, n, m, rows, bd, rfl, h2, rfl⟩ := h
    refine q_drop (ev_mem (ev_var rfl) h2.p (fun _ _ _ => rfl) (ea_cons (ev_var rfl) ea_nil) (spv fun H1 e1 => ⟨p, q, κ, n, m, rows, bd, rfl, h2.mono e1, rfl⟩)) fun H1 e1 => ?_
    have h3 := h2.mono e1
    exact s_ret (ev_andV (ev_op (f_val T (ev_var rfl) h3.p) (f_val T (ev_var rfl) h3.q) rv_neN) fun _ => ev_op (ev_op (f_val T (ev_var rfl) h3.p) (f_val T (ev_var rfl) h3.q) rv_and) (f_val T (ev_var rfl) h3.p) rv_eqN) fun H2 e2 => k _ H2 (e1.trans e2) rfl
theorem sc_FlagMember_contains : FnScope ["self", "x"] ["self", "x"] (defScope s_FlagMember_contains) := ⟨rfl, rfl, rfl, by decide +kernel, rfl, by decide +kernel, by decide +kernel⟩
theorem me_FlagMember_contains (T : Tx P w K mg) : ∃ fd, Me P w K mg base 3 "FlagMember" "__contains__" ["self", "x"] (spTwo K (gB fun n m => decide (n &&& m = m))) fd := by
  obtain ⟨fd, F⟩ := T.f_FlagMember_contains
  obtain ⟨fdMis_beside, Mis_beside⟩ := me_FlagMember_is_beside (base := base) T
  have nd := sc_FlagMember_contains.nd
  refine ⟨fd, ⟨F.ok sc_FlagMember_contains (fun vs H Q E h => ?_) (fun cdv A outer s H vs Q E hr h => ⟨_, PSs.nox ((pss_one (ps_ret (pe_and (pe_meth (pv 0) T.c_FlagMember Mis_beside.mt Mis_beside.ok (hr.mono (by decide)) Mis_beside.b .nil pass0 (pa_cons (pv 1) pa_nil)) (pe_one (pe_cmpR op_eq (pe_op op_and (pe_fldK (K := K) (pv 0) rfl) (pe_fldK (K := K) (pv 1) rfl)) (pe_fldK (K := K) (pv 1) rfl) (nomark _))))))), ?_⟩), F.bindsN fun _ _ _ _ _ _ us hl => match us, hl with | [_, _], _ => rfl, T.mt_FlagMember_contains⟩⟩
  · obtain ⟨_, h, _⟩ := h
    obtain ⟨p, q, κ, n, m, rows, bd, rfl, h2, rfl⟩ := h
    rfl
  · obtain ⟨Pz, h, k⟩ := h
    obtain ⟨p, q, κ, n, m, rows, bd, rfl, h2, rfl⟩ := h
    exact s_ret (ev_and1 (a := true) (ev_mem (ev_var rfl) h2.p (fun _ _ _ => rfl) (ea_cons (ev_var rfl) ea_nil) (spv fun H1 e1 => ⟨p, q, κ, n, m, rows, bd, rfl, h2.mono e1, rfl⟩)) (fun _ => ev_op (ev_op (f_val T (ev_var rfl) h2.p) (f_val T (ev_var rfl) h2.q) rv_and) (f_val T (ev_var rfl) h2.q) rv_eqN) (Bool.true_and _)) fun H2 e2 => k _ H2 e2 rfl
theorem sc_FlagMember_eq : FnScope ["self", "other"] ["self", "other"] (defScope s_FlagMember_eq) := ⟨rfl, rfl, rfl, by decide +kernel, rfl, by decide +kernel, by decide +kernel⟩
theorem me_FlagMember_eq (T : Tx P w K mg) : ∃ fd, Me P w K mg base 2 "FlagMember" "__eq__" ["self", "other"] (spTwo K (gB fun n m => decide (n = m))) fd := by
  obtain ⟨fd, F⟩ := T.f_FlagMember_eq
  have nd := sc_FlagMember_eq.nd
  refine ⟨fd, ⟨F.ok sc_FlagMember_eq (fun vs H Q E h => ?_) (fun cdv A outer s H vs Q E hr h => ⟨_, PSs.nox ((pss_one (ps_ret (pe_and (pe_callB (callK_isi (K := K)) (by rfl) T.b_isinstance bo_isinstance (pa_cons (pv 1) (pa_cons (pe_gR rfl T.m_Member) pa_nil))) (pe_and (pe_cmpR (op_sameO T.k_obj T.k_eq (n := 1) (hr.mono (by decide))) (pe_fldK (K := K) (pv 0) rfl) (pe_fldK (K := K) (pv 1) rfl) (nomark _)) (pe_one (pe_cmpR op_eq (pe_fldK (K := K) (pv 0) rfl) (pe_fldK (K := K) (pv 1) rfl) (nomark _)))))))), ?_⟩), F.bindsN fun _ _ _ _ _ _ us hl => match us, hl with | [_, _], _ => rfl, T.mt_FlagMember_eq⟩⟩
  · obtain ⟨_, h, _⟩ := h
    obtain ⟨p, q, κ, n, m, rows, bd, rfl, h2, rfl⟩ := h
    rfl
  · obtain ⟨Pz, h, k⟩ := h
    obtain ⟨p, q, κ, n, m, rows, bd, rfl, h2, rfl⟩ := h
    obtain ⟨dx, a, b, c, hq⟩ := h2.q
    exact s_ret (ev_and1 (a := true) (ei_fm T (ev_var rfl) hq T.kit_fm_m) (fun _ => ev_andV (a := true) (ev_op (f_kind T (ev_var rfl) h2.p) (f_kind T (ev_var rfl) h2.q) (rv_same h2.k)) fun _ => ev_op (f_val T (ev_var rfl) h2.p) (f_val T (ev_var rfl) h2.q) rv_eqN) (by rw [Bool.true_and, Bool.true_and])) fun H1 e1 => k _ H1 e1 rfl
/-- one member -/
structure One (K : PySem.W.Frag) (H : Hp) (p κ : Addr) (n : Nat) (rows : List Row) (bd : Str) : Prop where
  p : Mem K H p κ n
  k : KindAt K H κ rows bd
  wf : Wf rows
  n : lt40 n
theorem One.mono {H H' : Hp} {p κ : Addr} {n : Nat} {rows : List Row} {bd : Str} (e : Ex H H') (t : One K H p κ n rows bd) : One K H' p κ n rows bd := ⟨t.p.mono e, t.k.mono e, t.wf, t.n⟩
def spOne (K : PySem.W.Frag) (G : Nat → V → Hp → Prop) : Sp := mkSp fun vs H P => ∃ (p κ : Addr) (n : Nat) (rows : List Row) (bd : Str), vs = [.ref p] ∧ One K H p κ n rows bd ∧ P = G n
theorem sc_FlagMember_len : FnScope ["self"] ["self"] (defScope s_FlagMember_len) := ⟨rfl, rfl, rfl, by decide +kernel, rfl, by decide +kernel, by decide +kernel⟩
theorem me_FlagMember_len (T : Tx P w K mg) : ∃ fd, Me P w K mg base 5 "FlagMember" "__len__" ["self"] (spOne K fun n => IsV (vN (pc n))) fd := by
  obtain ⟨fd, F⟩ := T.f_FlagMember_len
  obtain ⟨fdGbits_of, Gbits_of⟩ := fn_bits_of (base := base) T
  have nd := sc_FlagMember_len.nd
  refine ⟨fd, ⟨F.ok sc_FlagMember_len (fun vs H Q E h => ?_) (fun cdv A outer s H vs Q E hr h => ⟨_, PSs.nox ((pss_one (ps_ret (pe_callB (callK_len (K := K)) (by rfl) T.b_len PySem.boot_len (pa_cons (pe_call Gbits_of.ok (hr.mono (by decide)) rfl Gbits_of.m Gbits_of.kp Gbits_of.b .nil pass0 (pa_cons (pe_fldK (K := K) (pv 0) rfl) pa_nil)) pa_nil))))), ?_⟩), F.bindsN fun _ _ _ _ _ _ us hl => match us, hl with | [_], _ => rfl, T.mt_FlagMember_len⟩⟩
  · obtain ⟨_, h, _⟩ := h
    obtain ⟨p, κ, n, rows, bd, rfl, h1, rfl⟩ := h
    rfl
  · obtain ⟨Pz, h, k⟩ := h
    obtain ⟨p, κ, n, rows, bd, rfl, h1, rfl⟩ := h
    exact s_ret (ev_lenBits (gv_call (ea_cons (f_val T (ev_var rfl) h1.p) ea_nil) (spg fun H1 e1 => ⟨n, rfl, h1.n, rfl⟩))) fun H1 e1 => k _ H1 e1 rfl
theorem sc_FlagMember_bool : FnScope ["self"] ["self"] (defScope s_FlagMember_bool) := ⟨rfl, rfl, rfl, by decide +kernel, rfl, by decide +kernel, by decide +kernel⟩
theorem me_FlagMember_bool (T : Tx P w K mg) : ∃ fd, Me P w K mg base 1 "FlagMember" "__bool__" ["self"] (spOne K fun n => IsV (.bl (!decide (n = 0)))) fd := by
  obtain ⟨fd, F⟩ := T.f_FlagMember_bool
  have nd := sc_FlagMember_bool.nd
  refine ⟨fd, ⟨F.ok sc_FlagMember_bool (fun vs H Q E h => ?_) (fun cdv A outer s H vs Q E hr h => ⟨_, PSs.nox ((pss_one (ps_ret (pe_callTy call_bool1 (by rfl) T.b_bool bo_bool (pa_cons (pe_cmpR op_ne (pe_fldK (K := K) (pv 0) rfl) pe_int (nomark _)) pa_nil))))), ?_⟩), F.bindsN fun _ _ _ _ _ _ us hl => match us, hl with | [_], _ => rfl, T.mt_FlagMember_bool⟩⟩
  · obtain ⟨_, h, _⟩ := h
    obtain ⟨p, κ, n, rows, bd, rfl, h1, rfl⟩ := h
    rfl
  · obtain ⟨Pz, h, k⟩ := h
    obtain ⟨p, κ, n, rows, bd, rfl, h1, rfl⟩ := h
    refine s_ret (ev_cb1 (ev_op (f_val T (ev_var rfl) h1.p) ev_c (rv_neN (b := 0))) fun H1 e1 Q q => ?_) fun H1 e1 => k _ H1 e1 rfl
    exact Or.inr ⟨_, rfl, q H1 (Ex.refl H1)⟩

end
end EC
end
section
set_option Elab.async false
set_option linter.all false
set_option maxRecDepth 100000
set_option maxHeartbeats 2000000
namespace EC
open PySem PySem.Spec PyProof.Rows L2 Evl
section
variable {P : Program} {w : World} {K : PySem.W.Frag} {mg : Str → Option Value} {base : Heap}
section
variable {σ : L2.St} {H : Hp} {ta tb : TE} {P0 : V → Hp → Prop} {sp : Sp} {E : XK} {x z : V} {xs : List V}
theorem eu_tupG (h : Gv ta σ H (LstV xs)) : EvU (tCB (rTupO K) (tCons ta tNil)) σ H xs := fun H1 e Q q =>
  h H1 e _ fun v H2 e2 hv => by
    obtain ⟨p, rfl, hp⟩ := hv
    exact ⟨p, xs, rfl, Or.inl ⟨sq_of hp, fun l hl => q l _ (fresh_back e2 hl) (e2.trans (Ex.new hl)) upd_same⟩⟩
theorem gv_call2U (h1 : Ev ta σ H x) (h2 : EvU tb σ H xs) (hs : ∀ p H1, Ex H H1 → H1 p = some (.tup xs) → SpG sp [x, .ref p] H1 P0) : Gv (tCall sp [] E (tCons ta (tCons tb tNil))) σ H P0 := fun H1 e Q q =>
  h1 H1 e _ fun H2 e2 => h2 H2 (e.trans e2) _ fun p H3 _ e3 hp => hs p H3 ((e.trans e2).trans e3) hp H3 (Ex.refl H3) Q (fun v H4 e4 pv => q v H4 ((e2.trans e3).trans e4) pv) E
theorem ev_ixG {j : Nat} {i : Int} (hi : i = (j : Int)) (ha : Gv ta σ H (fun v H' => ∃ p xs, v = .ref p ∧ H' p = some (.tup xs) ∧ xs[j]? = some z)) : Ev (tOp (rIxT K) ta (tC (.int i))) σ H z := fun H1 e Q q =>
  ha H1 e _ fun v H2 e2 hv => by
    obtain ⟨p, xs, rfl, hp, hz⟩ := hv
    subst hi
    exact ⟨p, xs, _, z, rfl, rfl, st_of hp, at_nat hz, q H2 e2⟩
end
theorem valOf_lt {rows : List Row} {z : Str} (wf : Wf rows) : lt40 (valOf rows z) := by
  unfold valOf
  cases h : ((rows.filter fun q => decide (q.1 = z)).map (·.2)) with
  | nil => exact (by decide : (0 : Nat) < 2 ^ 40)
  | cons n l =>
    have h1 : n ∈ ((rows.filter fun q => decide (q.1 = z)).map (·.2)) := by
      rw [h]
      exact List.mem_cons_self
    obtain ⟨q, hq, rfl⟩ := List.mem_map.mp h1
    exact wf.vals q (List.mem_filter.mp hq).1
/-- a member and a name -/
def spOneZ (K : PySem.W.Frag) (G : Addr → Nat → Nat → V → Hp → Prop) : Sp := mkSp fun vs H P => ∃ (p κ : Addr) (n : Nat) (z : Str) (rows : List Row) (bd : Str), vs = [.ref p, .str z] ∧ One K H p κ n rows bd ∧ z ∈ rows.map (·.1) ∧ P = G κ n (valOf rows z)
theorem ev_valOf {σ : L2.St} {H : Hp} {ta tb : TE} {κ : Addr} {z : Str} {rows : List Row} {bd : Str} {E : XK} (h1 : Ev ta σ H (.ref κ)) (h2 : Ev tb σ H (.str z)) (hk : KindAt K H κ rows bd) (wf : Wf rows) (hz : z ∈ rows.map (·.1)) : Ev (tCall (spValOf K) [] E (tCons ta (tCons tb tNil))) σ H (vN (valOf rows z)) :=
  ev_call (ea_cons h1 (ea_cons h2 ea_nil)) (spv fun H1 e1 => ⟨κ, z, rows, bd, rfl, hk.mono e1, wf, hz, rfl⟩)
theorem sc_FlagMember_with_bit : FnScope ["self", "name"] ["self", "name"] (defScope s_FlagMember_with_bit) := ⟨rfl, rfl, rfl, by decide +kernel, rfl, by decide +kernel, by decide +kernel⟩
theorem me_FlagMember_with_bit (T : Tx P w K mg) : ∃ fd, Me P w K mg base 7 "FlagMember" "with_bit" ["self", "name"] (spOneZ K fun κ n v => IsMb K κ (n ||| v)) fd := by
  obtain ⟨fd, F⟩ := T.f_FlagMember_with_bit
  obtain ⟨fdGvalue_of_name_members, Gvalue_of_name_members⟩ := fn_value_of_name_members (base := base) T
  obtain ⟨fdMjoined_with, Mjoined_with⟩ := me_FlagMember_joined_with (base := base) T
  have nd := sc_FlagMember_with_bit.nd
  refine ⟨fd, ⟨F.ok sc_FlagMember_with_bit (fun vs H Q E h => ?_) (fun cdv A outer s H vs Q E hr h => ⟨_, PSs.nox ((pss_one (ps_ret (pe_meth (pv 0) T.c_FlagMember Mjoined_with.mt Mjoined_with.ok (hr.mono (by decide)) Mjoined_with.b .nil pass0 (pa_cons (pe_op op_or (pe_fldK (K := K) (pv 0) rfl) (pe_call Gvalue_of_name_members.ok (hr.mono (by decide)) rfl Gvalue_of_name_members.m Gvalue_of_name_members.kp Gvalue_of_name_members.b .nil pass0 (pa_cons (pe_fldK (K := K) (pv 0) rfl) (pa_cons (pv 1) pa_nil)))) pa_nil))))), ?_⟩), F.bindsN fun _ _ _ _ _ _ us hl => match us, hl with | [_, _], _ => rfl, T.mt_FlagMember_with_bit⟩⟩
  · obtain ⟨_, h, _⟩ := h
    obtain ⟨p, κ, n, z, rows, bd, rfl, h1, hz, rfl⟩ := h
    rfl
  · obtain ⟨Pz, h, k⟩ := h
    obtain ⟨p, κ, n, z, rows, bd, rfl, h1, hz, rfl⟩ := h
    refine s_retG (gv_mem (ev_var rfl) h1.p (fun _ _ _ => rfl) (ea_cons (ev_is (ev_op (f_val T (ev_var rfl) h1.p) (ev_valOf (f_kind T (ev_var rfl) h1.p) (ev_var rfl) h1.k h1.wf hz) rv_I0) (congrArg V.int (bO n (valOf rows z)))) ea_nil) (spg fun H2 e2 => ⟨p, κ, n, _, rows, bd, rfl, h1.p.mono e2, h1.k.mono e2, h1.wf, rfl⟩)) fun v H2 e2 hv => k v H2 e2 hv
theorem sc_FlagMember_without : FnScope ["self", "name"] ["self", "name"] (defScope s_FlagMember_without) := ⟨rfl, rfl, rfl, by decide +kernel, rfl, by decide +kernel, by decide +kernel⟩
theorem me_FlagMember_without (T : Tx P w K mg) : ∃ fd, Me P w K mg base 7 "FlagMember" "without" ["self", "name"] (spOneZ K fun κ n v => IsMb K κ (andn n v)) fd := by
  obtain ⟨fd, F⟩ := T.f_FlagMember_without
  obtain ⟨fdGvalue_of_name_members, Gvalue_of_name_members⟩ := fn_value_of_name_members (base := base) T
  obtain ⟨fdMjoined_with, Mjoined_with⟩ := me_FlagMember_joined_with (base := base) T
  have nd := sc_FlagMember_without.nd
  refine ⟨fd, ⟨F.ok sc_FlagMember_without (fun vs H Q E h => ?_) (fun cdv A outer s H vs Q E hr h => ⟨_, PSs.nox ((pss_one (ps_ret (pe_meth (pv 0) T.c_FlagMember Mjoined_with.mt Mjoined_with.ok (hr.mono (by decide)) Mjoined_with.b .nil pass0 (pa_cons (pe_op op_and (pe_fldK (K := K) (pv 0) rfl) (pe_un un_inv (pe_call Gvalue_of_name_members.ok (hr.mono (by decide)) rfl Gvalue_of_name_members.m Gvalue_of_name_members.kp Gvalue_of_name_members.b .nil pass0 (pa_cons (pe_fldK (K := K) (pv 0) rfl) (pa_cons (pv 1) pa_nil))))) pa_nil))))), ?_⟩), F.bindsN fun _ _ _ _ _ _ us hl => match us, hl with | [_, _], _ => rfl, T.mt_FlagMember_without⟩⟩
  · obtain ⟨_, h, _⟩ := h
    obtain ⟨p, κ, n, z, rows, bd, rfl, h1, hz, rfl⟩ := h
    rfl
  · obtain ⟨Pz, h, k⟩ := h
    obtain ⟨p, κ, n, z, rows, bd, rfl, h1, hz, rfl⟩ := h
    refine s_retG (gv_mem (ev_var rfl) h1.p (fun _ _ _ => rfl) (ea_cons (ev_is (ev_op (f_val T (ev_var rfl) h1.p) (ev_un (ev_valOf (f_kind T (ev_var rfl) h1.p) (ev_var rfl) h1.k h1.wf hz) ru_inv) rv_I0) (congrArg V.int (bN n (valOf rows z)))) ea_nil) (spg fun H2 e2 => ⟨p, κ, n, _, rows, bd, rfl, h1.p.mono e2, h1.k.mono e2, h1.wf, rfl⟩)) fun v H2 e2 hv => k v H2 e2 hv
/-- what is left of n -/
def restOf (rows : List Row) (n : Nat) : Int := (n : Int) - ((takenL n (singlesL rows)).sum : Nat)
def spRest (K : PySem.W.Frag) : Sp := mkSp fun vs H P => ∃ (p κ : Addr) (n : Nat) (rows : List Row) (bd : Str), vs = [.ref p] ∧ One K H p κ n rows bd ∧ P = IsV (.int (restOf rows n))
theorem sc_FlagMember_rest : FnScope ["self"] ["self"] (defScope s_FlagMember_rest) := ⟨rfl, rfl, rfl, by decide +kernel, rfl, by decide +kernel, by decide +kernel⟩
theorem pr_FlagMember_rest (T : Tx P w K mg) : ∃ fd, Pp P w K mg base 6 "FlagMember" "rest" ["self"] (spRest K) fd := by
  obtain ⟨fd, F⟩ := T.f_FlagMember_rest
  obtain ⟨fdGsingles_of, Gsingles_of⟩ := fn_singles_of (base := base) T
  obtain ⟨fdGsplit, Gsplit⟩ := fn_split (base := base) T
  have nd := sc_FlagMember_rest.nd
  refine ⟨fd, ⟨F.ok sc_FlagMember_rest (fun vs H Q E h => ?_) (fun cdv A outer s H vs Q E hr h => ⟨_, PSs.nox ((pss_one (ps_ret (pe_ix (ixK_tup (K := K)) (pe_call Gsplit.ok (hr.mono (by decide)) rfl Gsplit.m Gsplit.kp Gsplit.b .nil pass0 (pa_cons (pe_fldK (K := K) (pv 0) rfl) (pa_cons (pe_callTy (callK_tuple (K := K)) (by rfl) T.b_tuple bo_tuple (pa_cons (pe_call Gsingles_of.ok (hr.mono (by decide)) rfl Gsingles_of.m Gsingles_of.kp Gsingles_of.b .nil pass0 (pa_cons (pe_fldK (K := K) (pv 0) rfl) pa_nil)) pa_nil)) pa_nil))) pe_int (fun _ _ => rfl))))), ?_⟩), F.bindsN fun _ _ _ _ _ _ us hl => match us, hl with | [_], _ => rfl, T.pr_FlagMember_rest⟩⟩
  · obtain ⟨_, h, _⟩ := h
    obtain ⟨p, κ, n, rows, bd, rfl, h1, rfl⟩ := h
    rfl
  · obtain ⟨Pz, h, k⟩ := h
    obtain ⟨p, κ, n, rows, bd, rfl, h1, rfl⟩ := h
    refine s_ret (ev_ixG (j := 1) rfl (Gv.imp (gv_call2U (f_val T (ev_var rfl) h1.p) (eu_tupG (gv_call (ea_cons (f_kind T (ev_var rfl) h1.p) ea_nil) (spg fun H1 e1 => ⟨κ, rows, bd, rfl, h1.k.mono e1, h1.wf, rfl⟩))) fun q H1 e1 hq => spg fun H2 e2 => ⟨n, q, singlesL rows, rfl, h1.n, st_of (e2 q _ hq), rfl⟩) fun v H2 e2 hv => ?_)) fun H1 e1 => k _ H1 e1 rfl
    obtain ⟨q, t, rfl, hq⟩ := hv
    exact ⟨q, _, rfl, hq, rfl⟩
/-! ### kinds -/
section
variable {σ : L2.St} {H : Hp} {ta : TE} {t : TA} {P0 : V → Hp → Prop} {sp : Sp} {vs : List V} {E : XK} {κ : Addr} {m : Str} {z : V} {rows : List Row} {bd : Str}
theorem gv_kind (ha : Ev ta σ H (.ref κ)) (hk : KindAt K H κ rows bd) (hl : ∀ nm bs st ln r, (kindFs nm bs bd st ln r).lookup m = none) (ht : EvA t σ H vs) (hs : SpG sp (.ref κ :: vs) H P0) : Gv (tMeth (C_Kind K) m sp [] E ta t) σ H P0 := by
  obtain ⟨dx, r, nm, bs, st, ln, hk⟩ := hk
  exact gv_meth ha hk.ins (hl _ _ _ _ _) ht hs
theorem ev_kind (ha : Ev ta σ H (.ref κ)) (hk : KindAt K H κ rows bd) (hl : ∀ nm bs st ln r, (kindFs nm bs bd st ln r).lookup m = none) (ht : EvA t σ H vs) (hs : SpV sp (.ref κ :: vs) H z) : Ev (tMeth (C_Kind K) m sp [] E ta t) σ H z :=
  Gv.ev (gv_kind ha hk hl ht fun H1 e Q q E => hs H1 e Q (fun H2 e2 => q z H2 e2 rfl) E)
theorem ev_prop (ha : Ev ta σ H (.ref κ)) (hk : KindAt K H κ rows bd) (hs : SpV sp [.ref κ] H z) : Ev (tProp (C_Kind K) sp [] E ta) σ H z := fun H1 e Q q =>
  ha H1 e _ fun H2 e2 => by
    obtain ⟨dx, r, nm, bs, st, ln, hk⟩ := hk
    exact ⟨κ, dx, _, rfl, (e.trans e2) κ _ hk.ins, hs H2 (e.trans e2) Q (fun H3 e3 => q H3 (e2.trans e3)) E⟩
theorem gv_prop (ha : Ev ta σ H (.ref κ)) (hk : KindAt K H κ rows bd) (hs : SpG sp [.ref κ] H P0) : Gv (tProp (C_Kind K) sp [] E ta) σ H P0 := fun H1 e Q q =>
  ha H1 e _ fun H2 e2 => by
    obtain ⟨dx, r, nm, bs, st, ln, hk⟩ := hk
    exact ⟨κ, dx, _, rfl, (e.trans e2) κ _ hk.ins, hs H2 (e.trans e2) Q (fun v H3 e3 pv => q v H3 (e2.trans e3) pv) E⟩
end
def spMaskK (K : PySem.W.Frag) : Sp := mkSp fun vs H P => ∃ (κ : Addr) (rows : List Row) (bd : Str), vs = [.ref κ] ∧ KindAt K H κ rows bd ∧ Wf rows ∧ P = IsV (vN (orL (firstVals rows)))
theorem et_flag {σ : L2.St} {H : Hp} {ta : TE} {κ : Addr} {rows : List Row} {bd : Str} (T : Tx P w K mg) (ha : Ev ta σ H (.ref κ)) (hk : KindAt K H κ rows bd) : EvT (tTest (tOp rEq (tFld K ta "own_family") (tC (.str "flag")))) σ H true := by
  obtain ⟨dx, r, nm, bs, st, ln, hk⟩ := hk
  exact et_test (ev_op (f_fam T ha hk) ev_c (rv_is (rv_eq rfl) (by decide +kernel)))
theorem sc_Kind_mask : FnScope ["self"] ["self"] (defScope s_Kind_mask) := ⟨rfl, rfl, rfl, by decide +kernel, rfl, by decide +kernel, by decide +kernel⟩
theorem pr_Kind_mask (T : Tx P w K mg) : ∃ fd, Pp P w K mg base 3 "Kind" "mask" ["self"] (spMaskK K) fd := by
  obtain ⟨fd, F⟩ := T.f_Kind_mask
  obtain ⟨fdGmask_in, Gmask_in⟩ := fn_mask_in (base := base) T
  have nd := sc_Kind_mask.nd
  refine ⟨fd, ⟨F.ok sc_Kind_mask (fun vs H Q E h => ?_) (fun cdv A outer s H vs Q E hr h => ⟨_, PSs.nox ((pss_one (ps_ret (pe_ifExp (pt_cmpR op_eq (pe_fldK (K := K) (pv 0) rfl) pe_str (nomark _)) (pe_call Gmask_in.ok (hr.mono (by decide)) rfl Gmask_in.m Gmask_in.kp Gmask_in.b .nil pass0 (pa_cons (pe_fldK (K := K) (pv 0) rfl) pa_nil)) pe_int)))), ?_⟩), F.bindsN fun _ _ _ _ _ _ us hl => match us, hl with | [_], _ => rfl, T.pr_Kind_mask⟩⟩
  · obtain ⟨_, h, _⟩ := h
    obtain ⟨κ, rows, bd, rfl, hk, wf, rfl⟩ := h
    rfl
  · obtain ⟨Pz, h, k⟩ := h
    obtain ⟨κ, rows, bd, rfl, hk, wf, rfl⟩ := h
    have hk0 := hk
    obtain ⟨dx, r, nm, bs, st, ln, hk⟩ := hk
    exact s_ret (ev_if (b := true) (et_flag T (ev_var rfl) hk0) (fun _ => ev_call (ea_cons (f_rec T (ev_var rfl) hk) ea_nil) (spv fun H1 e1 => ⟨r, rows, rfl, hk.rec_.mono e1, wf, rfl⟩)) (fun z => nomatch z)) fun H1 e1 => k _ H1 e1 rfl
def spAllNames (K : PySem.W.Frag) : Sp := mkSp fun vs H P => ∃ (κ : Addr) (rows : List Row) (bd : Str), vs = [.ref κ] ∧ KindAt K H κ rows bd ∧ Wf rows ∧ P = fun v H' => ∃ p, v = .ref p ∧ H' p = some (.tup (rows.map fun r => .str r.1))
theorem sc_Kind_all_names : FnScope ["self", "name", "value"] ["self"] (defScope s_Kind_all_names) := ⟨rfl, rfl, rfl, by decide +kernel, rfl, by decide +kernel, by decide +kernel⟩
theorem pr_Kind_all_names (T : Tx P w K mg) : ∃ fd, Pp P w K mg base 1 "Kind" "all_names" ["self"] (spAllNames K) fd := by
  obtain ⟨fd, F⟩ := T.f_Kind_all_names
  have nd := sc_Kind_all_names.nd
  refine ⟨fd, ⟨F.ok sc_Kind_all_names (fun vs H Q E h => ?_) (fun cdv A outer s H vs Q E hr h => ⟨_, PSs.nox ((pss_one (ps_ret (pe_callTy (callK_tuple (K := K)) (by rfl) T.b_tuple bo_tuple (pa_cons (pe_lc (own := [("name", 1), ("value", 2)]) rfl nd (piK_tup (K := K) (pe_fldK (K := K) (pe_fldK (K := K) (pv 0) rfl) rfl)) (blkOk_by (N := ["self", "name", "value"]) (sc := defScope s_Kind_all_names) (by decide +kernel)) (fun _ _ _ _ _ => (pgK_tup (K := K) (n := 2) rfl (pgs_cons (pg_name (i := 1) nd rfl (Or.inl rfl)) (pgs_cons (pg_name (i := 2) nd rfl (Or.inl rfl)) pgs_nil)))) (fun _ _ _ _ _ => pts_nil) (fun _ _ _ _ _ => (pv 1))) pa_nil))))), ?_⟩), F.bindsN fun _ _ _ _ _ _ us hl => match us, hl with | [_], _ => rfl, T.pr_Kind_all_names⟩⟩
  · obtain ⟨_, h, _⟩ := h
    obtain ⟨κ, rows, bd, rfl, hk, wf, rfl⟩ := h
    rfl
  · obtain ⟨Pz, h, k⟩ := h
    obtain ⟨κ, rows, bd, rfl, hk, wf, rfl⟩ := h
    obtain ⟨dx, r, nm, bs, st, ln, hk⟩ := hk
    obtain ⟨dr, t, d, a, b, c, e, xs, hr⟩ := hk.rec_
    have e0 : ((rows.filter fun _ => true).map fun r : Row => V.str r.1) = rows.map fun r => .str r.1 := by rw [List.filter_eq_self.mpr (fun _ _ => rfl)]
    exact s_retG (EvU.gv (eu_tupN (el_is (el_rows (fun _ => true) (fun q => .str q.1) (f_rows T (f_rec T (ev_var rfl) hk) hr) hr.tup hr.rws wf.small (fun _ _ => rfl) fun q H1 hq e1 => ⟨fun H5 e5 Q k => k H5 (Ex.refl H5), fun _ => ev_var rfl⟩) e0)) fun p H1 hp => ⟨p, rfl, hp⟩) fun v H1 e1 hv => k v H1 e1 hv
def spMemWith (K : PySem.W.Frag) : Sp := mkSp fun vs H P => ∃ (κ : Addr) (n : Nat) (rows : List Row) (bd : Str), vs = [.ref κ, vN n] ∧ KindAt K H κ rows bd ∧ Wf rows ∧ P = IsMb K κ n
theorem sc_Kind_member_with : FnScope ["self", "value"] ["self", "value"] (defScope s_Kind_member_with) := ⟨rfl, rfl, rfl, by decide +kernel, rfl, by decide +kernel, by decide +kernel⟩
theorem me_Kind_member_with (T : Tx P w K mg) : ∃ fd, Me P w K mg base 6 "Kind" "member_with" ["self", "value"] (spMemWith K) fd := by
  obtain ⟨fd, F⟩ := T.f_Kind_member_with
  obtain ⟨fdI_FlagMember, I_FlagMember⟩ := in_FlagMember (base := base) T
  have nd := sc_Kind_member_with.nd
  refine ⟨fd, ⟨F.ok sc_Kind_member_with (fun vs H Q E h => ?_) (fun cdv A outer s H vs Q E hr h => ⟨_, PSs.nox ((pss_one (ps_ret (pe_ifExp (pt_cmpR op_eq (pe_fldK (K := K) (pv 0) rfl) pe_str (nomark _)) (pe_make I_FlagMember.mkC I_FlagMember.ok (hr.mono (by decide)) rfl T.m_FlagMember I_FlagMember.b .nil pass0 (pa_cons (pv 0) (pa_cons (pv 1) pa_nil))) pe_no)))), ?_⟩), F.bindsN fun _ _ _ _ _ _ us hl => match us, hl with | [_, _], _ => rfl, T.mt_Kind_member_with⟩⟩
  · obtain ⟨_, h, _⟩ := h
    obtain ⟨κ, n, rows, bd, rfl, hk, wf, rfl⟩ := h
    rfl
  · obtain ⟨Pz, h, k⟩ := h
    obtain ⟨κ, n, rows, bd, rfl, hk, wf, rfl⟩ := h
    exact s_retG (gv_if (b := true) (et_flag T (ev_var rfl) hk) (fun _ => gv_make (ea_cons (ev_var rfl) (ea_cons (ev_var rfl) ea_nil)) hk wf) (fun z => nomatch z)) fun v H1 e1 hv => k v H1 e1 hv
def spKindN (K : PySem.W.Frag) (G : V → Hp → Prop) : Sp := mkSp fun vs H P => ∃ (κ : Addr) (n : Nat) (rows : List Row) (bd : Str), vs = [.ref κ, vN n] ∧ KindAt K H κ rows bd ∧ Wf rows ∧ lt40 n ∧ P = G
theorem sc_Kind_has_member : FnScope ["self", "thing"] ["self", "thing"] (defScope s_Kind_has_member) := ⟨rfl, rfl, rfl, by decide +kernel, rfl, by decide +kernel, by decide +kernel⟩
theorem me_Kind_has_member (T : Tx P w K mg) : ∃ fd, Me P w K mg base 2 "Kind" "has_member" ["self", "thing"] (spKindN K (IsV (.bl false))) fd := by
  obtain ⟨fd, F⟩ := T.f_Kind_has_member
  have nd := sc_Kind_has_member.nd
  refine ⟨fd, ⟨F.ok sc_Kind_has_member (fun vs H Q E h => ?_) (fun cdv A outer s H vs Q E hr h => ⟨_, PSs.nox ((pss_one (ps_ret (pe_and (pe_callB (callK_isi (K := K)) (by rfl) T.b_isinstance bo_isinstance (pa_cons (pv 1) (pa_cons (pe_gR rfl T.m_Member) pa_nil))) (pe_one (pe_cmpR (op_sameO T.k_obj T.k_eq (n := 1) (hr.mono (by decide))) (pe_fldK (K := K) (pv 1) rfl) (pv 0) (nomark _))))))), ?_⟩), F.bindsN fun _ _ _ _ _ _ us hl => match us, hl with | [_, _], _ => rfl, T.mt_Kind_has_member⟩⟩
  · obtain ⟨_, h, _⟩ := h
    obtain ⟨κ, n, rows, bd, rfl, hk, wf, hn, rfl⟩ := h
    rfl
  · obtain ⟨Pz, h, k⟩ := h
    obtain ⟨κ, n, rows, bd, rfl, hk, wf, hn, rfl⟩ := h
    exact s_ret (ev_andV (a := false) (b := false) (ei_intO (ev_var rfl) T.kit_int_m) fun z => nomatch z) fun H1 e1 => k _ H1 e1 rfl
def spHasVal (K : PySem.W.Frag) : Sp := mkSp fun vs H P => ∃ (κ : Addr) (n : Nat) (rows : List Row) (bd : Str), vs = [.ref κ, vN n] ∧ KindAt K H κ rows bd ∧ Wf rows ∧ lt40 n ∧ P = IsV (.bl ((firstVals rows).any fun v => decide (v = n)))
theorem evs_vals {σ : L2.St} {H : Hp} {tl : TE} {xs : List V} (h : Gv tl σ H (LstV xs)) : ∀ H1, Ex H H1 → ∀ R : It → Hp → Prop, (∀ J H2, Ex H1 H2 → (∃ p, J = Itl K p ∧ H2 p = some (.lst xs)) → R J H2) → iList K tl σ H1 R := fun H1 e R q =>
  h H1 e _ fun v H2 e2 hv => by
    obtain ⟨p, rfl, hp⟩ := hv
    exact ⟨p, rfl, ⟨xs, sq_of hp⟩, q _ H2 e2 ⟨p, rfl, hp⟩⟩
theorem firstVals_len (rows : List Row) : (firstVals rows).length ≤ rows.length := by
  unfold firstVals
  rw [List.length_map]
  exact List.length_filter_le _ _
theorem any_at (l : List Nat) (n : Nat) : ((List.range l.length).map fun i => decide (l.getD i 0 = n)).any id = l.any fun v => decide (v = n) := by
  rw [List.any_map]
  rw [Bool.eq_iff_iff, List.any_eq_true, List.any_eq_true]
  constructor
  · rintro ⟨i, hi, h⟩
    have hi2 := List.mem_range.mp hi
    refine ⟨l.getD i 0, ?_, h⟩
    rw [List.getD_eq_getElem?_getD, List.getElem?_eq_getElem hi2]
    exact List.getElem_mem hi2
  · rintro ⟨v, hv, h⟩
    obtain ⟨i, hi, rfl⟩ := List.mem_iff_getElem.mp hv
    refine ⟨i, List.mem_range.mpr hi, ?_⟩
    show decide (l.getD i 0 = n) = true
    rw [List.getD_eq_getElem?_getD, List.getElem?_eq_getElem hi]
    exact h
theorem sc_Kind_has_value : FnScope ["self", "thing", "value"] ["self", "thing"] (defScope s_Kind_has_value) := ⟨rfl, rfl, rfl, by decide +kernel, rfl, by decide +kernel, by decide +kernel⟩
theorem me_Kind_has_value (T : Tx P w K mg) : ∃ fd, Me P w K mg base 4 "Kind" "has_value" ["self", "thing"] (spHasVal K) fd := by
  obtain ⟨fd, F⟩ := T.f_Kind_has_value
  obtain ⟨fdGis_value, Gis_value⟩ := fn_is_value (base := base) T
  obtain ⟨fdGvalues_in, Gvalues_in⟩ := fn_values_in (base := base) T
  have nd := sc_Kind_has_value.nd
  refine ⟨fd, ⟨F.ok sc_Kind_has_value (fun vs H Q E h => ?_) (fun cdv A outer s H vs Q E hr h => ⟨_, PSs.nox ((pss_one (ps_ret (pe_and (pe_call Gis_value.ok (hr.mono (by decide)) rfl Gis_value.m Gis_value.kp Gis_value.b .nil pass0 (pa_cons (pv 1) pa_nil)) (pe_one (pe_callB (crK_any (K := K) rfl) (by rfl) T.b_any bo_any (pa_cons (pe_lc (own := [("value", 2)]) rfl nd (piK_list (K := K) (pe_call Gvalues_in.ok (hr.mono (by decide)) rfl Gvalues_in.m Gvalues_in.kp Gvalues_in.b .nil pass0 (pa_cons (pe_fldK (K := K) (pv 0) rfl) pa_nil))) (blkOk_by (N := ["self", "thing", "value"]) (sc := defScope s_Kind_has_value) (by decide +kernel)) (fun _ _ _ _ _ => (pg_name (i := 2) nd rfl (Or.inl rfl))) (fun _ _ _ _ _ => pts_nil) (fun _ _ _ _ _ => (pe_cmpR op_eq (pv 2) (pv 1) (nomark _)))) pa_nil))))))), ?_⟩), F.bindsN fun _ _ _ _ _ _ us hl => match us, hl with | [_, _], _ => rfl, T.mt_Kind_has_value⟩⟩
  · obtain ⟨_, h, _⟩ := h
    obtain ⟨κ, n, rows, bd, rfl, hk, wf, hn, rfl⟩ := h
    rfl
  · obtain ⟨Pz, h, k⟩ := h
    obtain ⟨κ, n, rows, bd, rfl, hk, wf, hn, rfl⟩ := h
    obtain ⟨dx, r, nm, bs, st, ln, hk⟩ := hk
    have hl := firstVals_len rows
    have hs := wf.small
    refine s_ret (ev_and1 (a := true) (ev_call (ea_cons (ev_var rfl) ea_nil) (spv fun _ _ => ⟨n, rfl, InFlag.of hn, rfl⟩)) (fun _ => ev_anyN (el_is (el_lcS (firstVals rows).length (fun _ => true) (fun i => .bl (decide ((firstVals rows).getD i 0 = n))) (by omega) (evs_vals (gv_call (ea_cons (f_rec T (ev_var rfl) hk) ea_nil) (spg fun H1 e1 => ⟨r, rows, rfl, hk.rec_.mono e1, wf, rfl⟩))) ?_) (given_bl _ _))) (by rw [Bool.true_and, any_at])) fun H1 e1 => k _ H1 e1 rfl
    rintro J H1 e1 ⟨p, rfl, hp⟩
    have e0 : (firstVals rows).length = ((firstVals rows).map vN).length := by rw [List.length_map]
    rw [e0]
    refine ⟨_, _, walk_list, fun H2 e2 => sq_of (e2 p _ hp), ?_⟩
    rintro i x H2 H3 hi e2 ⟨rfl, h2⟩
    rw [List.getElem?_map] at h2
    obtain ⟨b, hb, rfl⟩ := Option.map_eq_some_iff.mp h2
    rw [getD_of hb]
    exact ⟨Ex.refl _, _, fun Q q => g_name q, rfl, fun H5 e5 Q k => k H5 (Ex.refl H5), fun _ => ev_op (ev_var rfl) (ev_var rfl) rv_eqN⟩

end
end EC
end
section
set_option Elab.async false
set_option linter.all false
set_option maxRecDepth 100000
set_option maxHeartbeats 2000000
namespace EC
open PySem PySem.Spec PyProof.Rows L2 Evl
section
variable {P : Program} {w : World} {K : PySem.W.Frag} {mg : Str → Option Value} {base : Heap}
section
variable {σ : L2.St} {H : Hp} {ta : TE} {P0 : V → Hp → Prop}
/-- (x,), x new -/
theorem gv_tup1 (hP : ∀ x H H', Ex H H' → P0 x H → P0 x H') (h : Gv ta σ H P0) : Gv (tTup (tCons ta tNil)) σ H (fun v H' => ∃ t x, v = .ref t ∧ H' t = some (.tup [x]) ∧ P0 x H') := fun H1 e Q q =>
  h H1 e _ fun v H2 e2 hv => ⟨by show 1 ≤ sizeLine; decide, fun t ht => q _ _ (e2.trans (Ex.new ht)) ⟨t, v, rfl, upd_same, hP v _ _ (Ex.new ht) hv⟩⟩
theorem IsMb.mono {κ : Addr} {n : Nat} (x : V) (H H' : Hp) (e : Ex H H') (h : IsMb K κ n x H) : IsMb K κ n x H' := by
  obtain ⟨p, rfl, h⟩ := h
  exact ⟨p, rfl, h.mono e⟩
end
/-- (a new member,) -/
def TupMb (K : PySem.W.Frag) (κ : Addr) (n : Nat) : V → Hp → Prop := fun v H' => ∃ t x, v = .ref t ∧ H' t = some (.tup [x]) ∧ IsMb K κ n x H'
/-- what a flag reads n as a member -/
def Reads (rows : List Row) (bd : Str) (n : Nat) : Prop := n ||| orL (firstVals rows) = orL (firstVals rows) ∨ bd = "keep"
def spLook (K : PySem.W.Frag) (G : Addr → Nat → V → Hp → Prop) : Sp := mkSp fun vs H P => ∃ (κ : Addr) (n : Nat) (rows : List Row) (bd : Str), vs = [.ref κ, vN n] ∧ KindAt K H κ rows bd ∧ Wf rows ∧ lt40 n ∧ Reads rows bd n ∧ P = G κ n
theorem firstVals_lt {rows : List Row} (wf : Wf rows) : ∀ v ∈ firstVals rows, lt40 v := fun v h => by
  unfold firstVals at h
  obtain ⟨q, hq, rfl⟩ := List.mem_map.mp h
  exact wf.vals q (List.mem_filter.mp hq).1
theorem sc_Kind_looked_up : FnScope ["self", "thing", "found", "word", "number"] ["self", "thing"] (defScope s_Kind_looked_up) := ⟨rfl, rfl, rfl, by decide +kernel, rfl, by decide +kernel, by decide +kernel⟩
theorem me_Kind_looked_up (T : Tx P w K mg) : ∃ fd, Me P w K mg base 7 "Kind" "looked_up" ["self", "thing"] (spLook K (TupMb K)) fd := by
  obtain ⟨fd, F⟩ := T.f_Kind_looked_up
  obtain ⟨fdGis_integer, Gis_integer⟩ := fn_is_integer (base := base) T
  obtain ⟨fdGreading, Greading⟩ := fn_reading (base := base) T
  obtain ⟨fdMhas_member, Mhas_member⟩ := me_Kind_has_member (base := base) T
  obtain ⟨fdMhas_value, Mhas_value⟩ := me_Kind_has_value (base := base) T
  obtain ⟨fdMmember_with, Mmember_with⟩ := me_Kind_member_with (base := base) T
  obtain ⟨fdPmask, Pmask⟩ := pr_Kind_mask (base := base) T
  have nd := sc_Kind_looked_up.nd
  refine ⟨fd, ⟨F.ok sc_Kind_looked_up (fun vs H Q E h => ?_) (fun cdv A outer s H vs Q E hr h => ⟨_, PSs.nox ((pss_cons (ps_if (pt_val (pe_meth (pv 0) T.c_Kind Mhas_member.mt Mhas_member.ok (hr.mono (by decide)) Mhas_member.b .nil pass0 (pa_cons (pv 1) pa_nil))) (pss_one (ps_ret (pe_tup (pa_cons (pv 1) pa_nil)))) pss_nil)
  (pss_cons (ps_if (pt_val (pe_meth (pv 0) T.c_Kind Mhas_value.mt Mhas_value.ok (hr.mono (by decide)) Mhas_value.b .nil pass0 (pa_cons (pv 1) pa_nil))) (pss_one (ps_ret (pe_tup (pa_cons (pe_meth (pv 0) T.c_Kind Mmember_with.mt Mmember_with.ok (hr.mono (by decide)) Mmember_with.b .nil pass0 (pa_cons (pv 1) pa_nil)) pa_nil)))) pss_nil)
  (pss_cons (ps_if (PW.pt (pw_and (pt_cmpR op_eq (pe_fldK (K := K) (pv 0) rfl) pe_str (nomark _)) (pw_and1 (pt_val (pe_call Gis_integer.ok (hr.mono (by decide)) rfl Gis_integer.m Gis_integer.kp Gis_integer.b .nil pass0 (pa_cons (pv 1) pa_nil)))))) (pss_cons (ps_set (i := 2) nd rfl (Or.inl rfl) (pe_call Greading.ok (hr.mono (by decide)) rfl Greading.m Greading.kp Greading.b .nil pass0 (pa_cons (pv 1) (pa_cons (pe_prop (pv 0) T.c_Kind Pmask.mt Pmask.ok (hr.mono (by decide)) Pmask.b .nil pass0 rfl) (pa_cons (pe_fldK (K := K) (pv 0) rfl) pa_nil)))))
  (pss_one (ps_if (pt_cmpR op_notN (pv 2) pe_non (nomark _)) (pss_cons (ps_asg (pv 2) (pgK_tup (K := K) (n := 2) rfl (pgs_cons (pg_name (i := 3) nd rfl (Or.inl rfl)) (pgs_cons (pg_name (i := 4) nd rfl (Or.inl rfl)) pgs_nil))))
  (pss_one (ps_ret (pe_ifExp (pt_cmpR op_eq (pv 3) pe_str (nomark _)) (pe_tup (pa_cons (pe_meth (pv 0) T.c_Kind Mmember_with.mt Mmember_with.ok (hr.mono (by decide)) Mmember_with.b .nil pass0 (pa_cons (pv 4) pa_nil)) pa_nil)) (pe_tup (pa_cons (pv 4) pa_nil)))))) pss_nil))) pss_nil)
  (pss_one (ps_ret pe_no)))))), ?_⟩), F.bindsN fun _ _ _ _ _ _ us hl => match us, hl with | [_, _], _ => rfl, T.mt_Kind_looked_up⟩⟩
  · obtain ⟨_, h, _⟩ := h
    obtain ⟨κ, n, rows, bd, rfl, hk, wf, hn, hr, rfl⟩ := h
    rfl
  · obtain ⟨Pz, h, k⟩ := h
    obtain ⟨κ, n, rows, bd, rfl, hk, wf, hn, hr, rfl⟩ := h
    have hk0 := hk
    refine q_when (b := false) (et_B (ev_kind (ev_var rfl) hk (fun _ _ _ _ _ => rfl) (ea_cons (ev_var rfl) ea_nil) (spv fun H1 e1 => ⟨κ, n, rows, bd, rfl, hk.mono e1, wf, hn, rfl⟩))) (fun z => nomatch z) fun _ H1 e1 => ?_
    have hk1 := hk.mono e1
    have mw : ∀ H2, Ex H1 H2 → ∀ {ta tb : TE} {σ : L2.St}, Ev ta σ H2 (.ref κ) → Ev tb σ H2 (vN n) → Gv (tTup (tCons (tMeth (C_Kind K) "member_with" (spMemWith K) [] E0 ta (tCons tb tNil)) tNil)) σ H2 (TupMb K κ n) := fun H2 e2 ta tb σ h1 h2 =>
      gv_tup1 IsMb.mono (gv_kind h1 (hk1.mono e2) (fun _ _ _ _ _ => rfl) (ea_cons h2 ea_nil) (spg fun H3 e3 => ⟨κ, n, rows, bd, rfl, (hk1.mono e2).mono e3, wf, rfl⟩))
    refine q_when (et_B (ev_kind (ev_var rfl) hk1 (fun _ _ _ _ _ => rfl) (ea_cons (ev_var rfl) ea_nil) (spv fun H2 e2 => ⟨κ, n, rows, bd, rfl, hk1.mono e2, wf, hn, rfl⟩))) (fun _ H2 e2 => ?_) (fun _ H2 e2 => ?_)
    · exact s_retG (mw H2 e2 (ev_var rfl) (ev_var rfl)) fun v H3 e3 hv => k v H3 ((e1.trans e2).trans e3) hv
    have hk2 := hk1.mono e2
    have x2 := e1.trans e2
    obtain ⟨dx, r, nm, bs, st, ln, hki⟩ := id hk2
    refine q_when (b := true) (et_and (a := true) (et_flag T (ev_var rfl) hk2) fun _ => et_B (ev_call (ea_cons (ev_var rfl) ea_nil) (spv fun _ _ => ⟨(n : Int), rfl, rfl⟩))) (fun _ H3 e3 => ?_) (fun z => nomatch z)
    have hk3 := hk2.mono e3
    refine q_asgG (gv_call (ea_cons (ev_var rfl) (ea_cons (ev_prop (ev_var rfl) hk3 (spv fun H4 e4 => ⟨κ, rows, bd, rfl, hk3.mono e4, wf, rfl⟩)) (ea_cons (f_bound T (ev_var rfl) (hki.mono e3)) ea_nil))) (spg fun H4 e4 => ⟨n, _, bd, rfl, hn, hr, rfl⟩)) fun v H4 e4 hv => ?_
    obtain ⟨f, rfl, hf⟩ := hv
    refine s_when (b := true) (et_test (ev_op (ev_var rfl) ev_c (fun H1 _ _ q => ⟨rfl, q H1 (Ex.refl H1)⟩))) (fun _ H5 e5 => ?_) (fun z => nomatch z)
    refine ⟨_, rfl, ?_⟩
    refine g_two (st_of (e5 f _ hf)) ?_
    have x6 := (e3.trans e4).trans e5
    exact s_retG (gv_if (b := true) (et_test (ev_op (ev_var rfl) ev_c (rv_is (rv_eq rfl) (by decide +kernel)))) (fun _ => mw H5 (e2.trans x6) (ev_var rfl) (ev_var rfl)) (fun z => nomatch z)) fun v H7 e7 hv => k v H7 ((x2.trans x6).trans e7) hv
theorem sc_Kind_call : FnScope ["self", "value", "found"] ["self", "value"] (defScope s_Kind_call) := ⟨rfl, rfl, rfl, by decide +kernel, rfl, by decide +kernel, by decide +kernel⟩
theorem me_Kind_call (T : Tx P w K mg) : ∃ fd, Me P w K mg base 8 "Kind" "__call__" ["self", "value"] (spLook K (IsMb K)) fd := by
  obtain ⟨fd, F⟩ := T.f_Kind_call
  obtain ⟨fdMlooked_up, Mlooked_up⟩ := me_Kind_looked_up (base := base) T
  have nd := sc_Kind_call.nd
  refine ⟨fd, ⟨F.ok sc_Kind_call (fun vs H Q E h => ?_) (fun cdv A outer s H vs Q E hr h => ⟨_, PSs.nox ((pss_cons (ps_set (i := 2) nd rfl (Or.inl rfl) (pe_meth (pv 0) T.c_Kind Mlooked_up.mt Mlooked_up.ok (hr.mono (by decide)) Mlooked_up.b .nil pass0 (pa_cons (pv 1) pa_nil)))
  (pss_cons (ps_if (pt_cmpR op_eq (pe_callB (callK_len (K := K)) (by rfl) T.b_len PySem.boot_len (pa_cons (pv 2) pa_nil)) pe_int (nomark _)) (pss_one ps_never) pss_nil)
  (pss_one (ps_ret (pe_ix (ixK_tup (K := K)) (pv 2) pe_int (fun _ _ => rfl))))))), ?_⟩), F.bindsN fun _ _ _ _ _ _ us hl => match us, hl with | [_, _], _ => rfl, T.mt_Kind_call⟩⟩
  · obtain ⟨_, h, _⟩ := h
    obtain ⟨κ, n, rows, bd, rfl, hk, wf, hn, hr, rfl⟩ := h
    rfl
  · obtain ⟨Pz, h, k⟩ := h
    obtain ⟨κ, n, rows, bd, rfl, hk, wf, hn, hr, rfl⟩ := h
    refine q_asgG (gv_kind (ev_var rfl) hk (fun _ _ _ _ _ => rfl) (ea_cons (ev_var rfl) ea_nil) (spg fun H1 e1 => ⟨κ, n, rows, bd, rfl, hk.mono e1, wf, hn, hr, rfl⟩)) fun v H1 e1 hv => ?_
    obtain ⟨t, x, rfl, ht, p, rfl, hp⟩ := hv
    refine q_when (b := false) (et_test (ev_op (ev_lenT (ev_var rfl) (st_of ht)) ev_c (rv_is (rv_eq rfl) (congrArg V.bl (eq_nat 1 0))))) (fun z => nomatch z) fun _ H2 e2 => ?_
    exact s_retG (Gv.imp (Ev.gv (ev_op (ev_var rfl) ev_c (rv_ixT (st_of (e2 t _ ht)) (at_nat (j := 0) rfl)))) fun v H3 e3 hv => ⟨p, hv, (hp.mono e2).mono e3⟩) fun v H3 e3 hv => k v H3 ((e1.trans e2).trans e3) hv
def spGetK (K : PySem.W.Frag) : Sp := mkSp fun vs H P => ∃ (κ : Addr) (z : Str) (rows : List Row) (bd : Str), vs = [.ref κ, .str z] ∧ KindAt K H κ rows bd ∧ Wf rows ∧ z ∈ rows.map (·.1) ∧ P = IsMb K κ (valOf rows z)
theorem sc_Kind_getitem : FnScope ["self", "at"] ["self", "at"] (defScope s_Kind_getitem) := ⟨rfl, rfl, rfl, by decide +kernel, rfl, by decide +kernel, by decide +kernel⟩
theorem me_Kind_getitem (T : Tx P w K mg) : ∃ fd, Me P w K mg base 7 "Kind" "__getitem__" ["self", "at"] (spGetK K) fd := by
  obtain ⟨fd, F⟩ := T.f_Kind_getitem
  obtain ⟨fdGvalue_of_name_members, Gvalue_of_name_members⟩ := fn_value_of_name_members (base := base) T
  obtain ⟨fdMmember_with, Mmember_with⟩ := me_Kind_member_with (base := base) T
  have nd := sc_Kind_getitem.nd
  refine ⟨fd, ⟨F.ok sc_Kind_getitem (fun vs H Q E h => ?_) (fun cdv A outer s H vs Q E hr h => ⟨_, PSs.nox ((pss_one (ps_ret (pe_meth (pv 0) T.c_Kind Mmember_with.mt Mmember_with.ok (hr.mono (by decide)) Mmember_with.b .nil pass0 (pa_cons (pe_call Gvalue_of_name_members.ok (hr.mono (by decide)) rfl Gvalue_of_name_members.m Gvalue_of_name_members.kp Gvalue_of_name_members.b .nil pass0 (pa_cons (pv 0) (pa_cons (pv 1) pa_nil))) pa_nil))))), ?_⟩), F.bindsN fun _ _ _ _ _ _ us hl => match us, hl with | [_, _], _ => rfl, T.mt_Kind_getitem⟩⟩
  · obtain ⟨_, h, _⟩ := h
    obtain ⟨κ, z, rows, bd, rfl, hk, wf, hz, rfl⟩ := h
    rfl
  · obtain ⟨Pz, h, k⟩ := h
    obtain ⟨κ, z, rows, bd, rfl, hk, wf, hz, rfl⟩ := h
    exact s_retG (gv_kind (ev_var rfl) hk (fun _ _ _ _ _ => rfl) (ea_cons (ev_valOf (ev_var rfl) (ev_var rfl) hk wf hz) ea_nil) (spg fun H1 e1 => ⟨κ, _, rows, bd, rfl, hk.mono e1, wf, rfl⟩)) fun v H1 e1 hv => k v H1 e1 hv

end
end EC
end
section
set_option Elab.async false
set_option linter.all false
set_option maxRecDepth 100000
set_option maxHeartbeats 2000000
namespace EC
open PySem PySem.Spec PyProof.Rows L2 Evl
section
variable {P : Program} {w : World} {K : PySem.W.Frag} {mg : Str → Option Value} {base : Heap}
def DictV (kvs : List (Key × V)) : V → Hp → Prop := fun v H' => ∃ d, v = .ref d ∧ H' d = some (.dK kvs)
/-- a dict or None -/
def DOr (f : V) (kvs : List (Key × V)) (H : Hp) : Prop := (f = .non ∧ kvs = []) ∨ ∃ d, f = .ref d ∧ H d = some (.dK kvs)
theorem DOr.mono {f : V} {kvs : List (Key × V)} {H H' : Hp} (e : Ex H H') (h : DOr f kvs H) : DOr f kvs H' := by
  rcases h with h | ⟨d, h1, h2⟩
  · exact Or.inl h
  · exact Or.inr ⟨d, h1, e _ _ h2⟩
theorem gv_dnew {σ : L2.St} {H : Hp} : Gv tDNewK σ H (DictV []) := fun H1 e Q q p hp => q _ _ (Ex.new hp) ⟨p, rfl, upd_same⟩
theorem gv_dor {σ : L2.St} {H : Hp} {f : V} {kvs : List (Key × V)} {i : Nat} (hs : σ[i]? = some (some f)) (h : DOr f kvs H) : Gv (tIf (tTest (tOp (fun x y H Q => y = .non ∧ Q (.bl (decide (x = .non))) H) (tVar i) (tC .non))) tDNewK (tVar i)) σ H (DictV kvs) := by
  refine gv_if (b := decide (f = .non)) (et_test (ev_op (ev_var hs) ev_c (fun H1 _ _ q => ⟨rfl, q H1 (Ex.refl H1)⟩))) (fun hb => ?_) fun hb => ?_
  · have e0 := of_decide_eq_true hb
    rcases h with ⟨_, rfl⟩ | ⟨d, rfl, _⟩
    · exact gv_dnew
    · cases e0
  · have e0 := of_decide_eq_false hb
    rcases h with ⟨rfl, _⟩ | ⟨d, rfl, hd⟩
    · exact absurd rfl e0
    · exact Gv.imp (Ev.gv (ev_var hs)) fun v H1 e1 hv => ⟨d, hv, e1 d _ hd⟩
/-- Record(..) -/
def spRecInit (K : PySem.W.Frag) : Sp := fun vs H Q _ => ∃ (p t c e : Addr) (f a b : V) (H0 : Hp) (dx : Addr) (xs : List V) (rows : List Row), vs = [.ref p, .ref t, f, a, b, .ref c, .ref e] ∧ AtInit H0 H (C_Record K) p dx ∧ SqT K H0 t xs ∧ RowsAt H0 xs rows ∧
  SqT K H0 c [] ∧ SqT K H0 e [] ∧ DOr f (firstsOf rows) H0 ∧ DOr a [] H0 ∧ DOr b [] H0 ∧ ∀ H2, Ex H0 H2 → RecAt K H2 p rows → Q .non H2
theorem sc_Record_init : FnScope ["self", "rows", "firsts", "attributes", "methods", "rule", "missing"] ["self", "rows", "firsts", "attributes", "methods", "rule", "missing"] (defScope s_Record_init) := ⟨rfl, rfl, rfl, by decide +kernel, rfl, by decide +kernel, by decide +kernel⟩
/-- Record's making: all given, none given -/
structure RecI (P : Program) (w : World) (K : PySem.W.Frag) (mg : Str → Option Value) (base : Heap) (k : Nat) (fd : FuncData) (ds : List Value) (dvs : List V) : Prop where
  ok : FnOk P w K mg base CX0 k (He.ma K (He.ga K "Record") "__init__") fd ["self", "rows", "firsts", "attributes", "methods", "rule", "missing"] (spRecInit K)
  b : Binds K fd ["self", "rows", "firsts", "attributes", "methods", "rule", "missing"] []
  b0 : Binds K fd ["self", "rows", "firsts", "attributes", "methods", "rule", "missing"] ds
  dv : Vals dvs ds
  df : RecDf K dvs
  mkC : Mk K (He.ga K "Record") (He.ma K (He.ga K "Record") "__init__")
theorem in_Record (T : Tx P w K mg) : ∃ fd ds dvs, RecI P w K mg base 1 fd ds dvs := by
  obtain ⟨dvs, fd, hdf, F⟩ := T.f_Record_init
  obtain ⟨da, db, dc, rfl, ha, hb, hc⟩ := hdf.ex
  have nd := sc_Record_init.nd
  have hcl := T.c_Record
  obtain ⟨ds, hv, b0⟩ := F.binds1 (ps := ["self", "rows", "firsts", "attributes", "methods", "rule", "missing"]) 1 0 (by simp) rfl fun TT kV doc pm an cdv ct us its h1 h2 => by
    match us, its, h1, h2 with
    | [u], [i1, i2, i3, i4, i5, i6], _, _ => exact ⟨_, rfl, rfl⟩
  obtain ⟨ds', hv', b⟩ := F.binds1 (ps := ["self", "rows", "firsts", "attributes", "methods", "rule", "missing"]) 7 6 (by simp) rfl fun TT kV doc pm an cdv ct us its h1 h2 => by
    match us, its, h1, h2 with
    | [u1, u2, u3, u4, u5, u6, u7], [i1, i2, i3, i4, i5, i6], _, _ => exact ⟨_, rfl, rfl⟩
  cases hv'
  refine ⟨fd, ds, _, ⟨F.ok sc_Record_init (fun vs H Q E h => ?_) (fun cdv A outer s H vs Q E hr h => ⟨_, PSs.nox ((pss_cons (ps_fld (pv 0) (pv 1) rfl)
  (pss_cons (ps_fld (pv 0) (pe_ifExp (pt_cmpR op_isN (pv 2) pe_non (nomark _)) pe_dnewK (pv 2)) rfl)
  (pss_cons (ps_fld (pv 0) (pe_ifExp (pt_cmpR op_isN (pv 3) pe_non (nomark _)) pe_dnewK (pv 3)) rfl)
  (pss_cons (ps_fld (pv 0) (pe_ifExp (pt_cmpR op_isN (pv 4) pe_non (nomark _)) pe_dnewK (pv 4)) rfl)
  (pss_cons (ps_fld (pv 0) (pv 5) rfl)
  (pss_one (ps_fld (pv 0) (pv 6) rfl)))))))), ?_⟩), b, b0, hv, hdf, T.mk_Record⟩⟩
  · obtain ⟨p, t, c, e, f, a, b, H0, dx, xs, rows, rfl, _⟩ := h
    rfl
  · obtain ⟨p, t, c, e, f, a, b, H0, dx, xs, rows, rfl, hi, ht, hrw, hc, he, hf, ha, hb, k⟩ := h
    have x0 := hi.ex
    refine q_fld (v := .ref t) (ev_var rfl) (ev_var rfl) hi.ins hcl T.na_Record_own_rows (by decide) fun H1 e1 => ?_
    have x1 := Ex.mut (o := .ins (C_Record K) dx (putF "own_rows" (.ref t) [])) (x0.trans e1) hi.1
    refine q_fldG (gv_dor (i := 2) rfl (hf.mono x1)) (ev_var rfl) upd_same hcl T.na_Record_own_firsts (by show (1 : Nat) < 1000; decide) fun vf H2 H3 e2 hvf e3 => ?_
    obtain ⟨d, rfl, hd⟩ := hvf
    have nd1 : d ≠ p := by
      intro z
      have h1 := e2 p _ upd_same
      rw [z, h1] at hd
      cases hd
    have x3 := Ex.mut (o := .ins (C_Record K) dx (putF "own_firsts" (.ref d) (putF "own_rows" (.ref t) []))) (x1.trans (e2.trans e3)) hi.1
    have d3 : (upd H3 p (.ins (C_Record K) dx (putF "own_firsts" (.ref d) (putF "own_rows" (.ref t) [])))) d = some (.dK (firstsOf rows)) := by
      rw [upd_ne nd1]
      exact e3 d _ hd
    refine q_fldG (gv_dor (i := 3) rfl (ha.mono x3)) (ev_var rfl) upd_same hcl T.na_Record_own_attributes (by show (2 : Nat) < 1000; decide) fun va H4 H5 e4 hva e5 => ?_
    obtain ⟨a1, rfl, ha1⟩ := hva
    have na1 : a1 ≠ p := by
      intro z
      have h1 := e4 p _ upd_same
      rw [z, h1] at ha1
      cases ha1
    have x5 := Ex.mut (o := .ins (C_Record K) dx (putF "own_attributes" (.ref a1) (putF "own_firsts" (.ref d) (putF "own_rows" (.ref t) [])))) (x3.trans (e4.trans e5)) hi.1
    have d5 : (upd H5 p (.ins (C_Record K) dx (putF "own_attributes" (.ref a1) (putF "own_firsts" (.ref d) (putF "own_rows" (.ref t) []))))) d = some (.dK (firstsOf rows)) := by
      rw [upd_ne nd1]
      exact (e4.trans e5) d _ d3
    have a5 : (upd H5 p (.ins (C_Record K) dx (putF "own_attributes" (.ref a1) (putF "own_firsts" (.ref d) (putF "own_rows" (.ref t) []))))) a1 = some (.dK []) := by
      rw [upd_ne na1]
      exact e5 a1 _ ha1
    refine q_fldG (gv_dor (i := 4) rfl (hb.mono x5)) (ev_var rfl) upd_same hcl T.na_Record_own_methods (by show (3 : Nat) < 1000; decide) fun vb H6 H7 e6 hvb e7 => ?_
    obtain ⟨b1, rfl, hb1⟩ := hvb
    have nb1 : b1 ≠ p := by
      intro z
      have h1 := e6 p _ upd_same
      rw [z, h1] at hb1
      cases hb1
    have x7 := Ex.mut (o := .ins (C_Record K) dx (putF "own_methods" (.ref b1) (putF "own_attributes" (.ref a1) (putF "own_firsts" (.ref d) (putF "own_rows" (.ref t) []))))) (x5.trans (e6.trans e7)) hi.1
    refine q_fld (v := .ref c) (ev_var rfl) (ev_var rfl) upd_same hcl T.na_Record_own_rule (by show (4 : Nat) < 1000; decide) fun H8 e8 => ?_
    have x8 := Ex.mut (o := .ins (C_Record K) dx (putF "own_rule" (.ref c) (putF "own_methods" (.ref b1) (putF "own_attributes" (.ref a1) (putF "own_firsts" (.ref d) (putF "own_rows" (.ref t) [])))))) (x7.trans e8) hi.1
    refine s_fld (v := .ref e) (ev_var rfl) (ev_var rfl) upd_same hcl T.na_Record_own_missing (by show (5 : Nat) < 1000; decide) fun H9 e9 => ?_
    have x9 := x8.trans e9
    refine k _ (Ex.mut x9 hi.1) ⟨dx, t, d, a1, b1, c, e, xs, ⟨upd_same, ex_t (Ex.mut x9 hi.1) ht, hrw.mono (Ex.mut x9 hi.1), ?_, ?_, ?_, ex_t (Ex.mut x9 hi.1) hc, ex_t (Ex.mut x9 hi.1) he⟩⟩
    · rw [upd_ne nd1]
      refine e9 d _ ?_
      rw [upd_ne nd1]
      refine e8 d _ ?_
      rw [upd_ne nd1]
      exact (e6.trans e7) d _ d5
    · rw [upd_ne na1]
      refine e9 a1 _ ?_
      rw [upd_ne na1]
      refine e8 a1 _ ?_
      rw [upd_ne na1]
      exact (e6.trans e7) a1 _ a5
    · rw [upd_ne nb1]
      refine e9 b1 _ ?_
      rw [upd_ne nb1]
      refine e8 b1 _ ?_
      rw [upd_ne nb1]
      exact e7 b1 _ hb1

end
end EC
end
section
set_option Elab.async false
set_option linter.all false
set_option maxRecDepth 100000
set_option maxHeartbeats 2000000
namespace EC
open PySem PySem.Spec PyProof.Rows L2 Evl
section
variable {P : Program} {w : World} {K : PySem.W.Frag} {mg : Str → Option Value} {base : Heap}
/-- a record -/
def RecV (K : PySem.W.Frag) (rows : List Row) : V → Hp → Prop := fun v H' => ∃ r, v = .ref r ∧ RecAt K H' r rows
theorem gv_makeRec {σ : L2.St} {H : Hp} {ta : TA} {E : XK} {t c e : Addr} {f a b : V} {xs : List V} {rows : List Row} (h : EvA ta σ H [.ref t, f, a, b, .ref c, .ref e]) (ht : SqT K H t xs) (hr : RowsAt H xs rows) (hc : SqT K H c []) (he : SqT K H e []) (hf : DOr f (firstsOf rows) H) (ha : DOr a [] H) (hb : DOr b [] H) :
    Gv (tMake (C_Record K) (spRecInit K) [] E ta) σ H (RecV K rows) := fun H1 x Q q =>
  h H1 x _ fun H2 x2 p dx hp hdx hne => by
    have y := x.trans x2
    exact ⟨p, t, c, e, f, a, b, H2, dx, xs, rows, rfl, ⟨hp, hdx, hne, rfl⟩, ex_t y ht, hr.mono y, ex_t y hc, ex_t y he, hf.mono y, ha.mono y, hb.mono y, fun H3 e3 hm => ⟨rfl, q _ H3 (x2.trans e3) ⟨p, rfl, hm⟩⟩⟩
theorem el_revT {σ : L2.St} {H : Hp} {ta : TE} {t : Addr} {xs : List V} (h : Ev ta σ H (.ref t)) (ht : SqT K H t xs) : EvU (tRevT K ta) σ H xs.reverse := fun H1 e Q q =>
  h H1 e _ fun H2 e2 => ⟨t, xs, rfl, ex_t (e.trans e2) ht, fun p hp => q p _ (fresh_back e2 hp) (e2.trans (Ex.new hp)) upd_same⟩
theorem q_forU {σ : L2.St} {H : Hp} {tl : TE} {D : Ends} {tz tb : TS} {g : TG} {xs : List V} (h : EvU tl σ H xs) (Pv : Hp → Nat → L2.St → Hp → Prop) (hE : ∀ H1 i σ' H', Pv H1 i σ' H' → Ex H1 H') (h0 : ∀ H1, Ex H H1 → Pv H1 0 σ H1)
    (hs : ∀ H1 i x σ' H', Ex H H1 → xs[i]? = some x → Pv H1 i σ' H' → g x σ' H' fun σ2 H2 => tb { D with nx := Pv H1 (i + 1), ct := Pv H1 (i + 1), bk := tz D } σ2 H2) (hd : ∀ H1 σ' H', Ex H H1 → Pv H1 xs.length σ' H' → tz D σ' H') : tSeq (tFor (iTup K tl) g tb) tz D σ H :=
  h H (Ex.refl H) _ fun p H1 _ e1 hp => ⟨p, rfl, ⟨xs, st_of hp⟩, for_tup (D := { D with nx := tz D }) (Pv H1) (h0 H1 e1) (fun i σ' H' _ q => st_of (hE H1 i σ' H' q p _ hp)) (fun i x σ' H' hx q => hs H1 i x σ' H' e1 hx q) (fun σ' H' q => hd H1 σ' H' e1 q)⟩
theorem q_par {σ : L2.St} {H : Hp} {ta tb : TE} {D : Ends} {tz : TS} {i j : Nat} {P1 : V → Hp → Prop} {P2 : V → V → Hp → Prop} (h1 : Gv ta σ H P1) (h2 : ∀ v H1, Ex H H1 → P1 v H1 → Gv tb σ H1 (P2 v)) (k : ∀ v w H1 H2, Ex H H1 → P1 v H1 → Ex H1 H2 → P2 v w H2 → tz D ((σ.set i (some v)).set j (some w)) H2) :
    tSeq (tPar i j (tCons ta (tCons tb tNil))) tz D σ H := h1 H (Ex.refl H) _ fun v H1 e1 p1 => h2 v H1 e1 p1 H1 (Ex.refl H1) _ fun w H2 e2 p2 => ⟨v, w, rfl, k v w H1 H2 e1 p1 e2 p2⟩
theorem putK_new {kvs : List (Key × V)} {z : Str} {v : V} (h : ∀ kv ∈ kvs, kv.1 ≠ Sum.inr z) : putK kvs (Sum.inr z) v = kvs ++ [(Sum.inr z, v)] := by
  unfold putK
  rw [if_neg]
  rw [List.any_eq_true]
  rintro ⟨kv, hkv, e⟩
  exact h kv hkv (of_decide_eq_true e)
theorem gv_star {σ : L2.St} {H : Hp} {td tk tv : TE} {o : Addr} {kvs : List (Key × V)} {z : Str} {b : V} (hd : Ev td σ H (.ref o)) (ho : H o = some (.dK kvs)) (hk : Ev tk σ H (.str z)) (hv : Ev tv σ H b) (hl : kvs.length < 100000) : Gv (tStarD td tk tv) σ H (DictV (putK kvs (.inr z) b)) := fun H1 e Q q p hp =>
  hd _ (e.trans (Ex.new hp)) _ fun H2 e2 => by
    have hop : o ≠ p := by
      intro w
      have h1 := e o _ ho
      rw [w, hp] at h1
      cases h1
    have h2p := e2 p _ upd_same
    have x2 : Ex H1 (upd H2 p (.dK kvs)) := Ex.mut ((Ex.new hp).trans e2) hp
    refine ⟨o, kvs, rfl, hop, Rd.of (e2 o _ ?_), h2p, hl, fun qa hqa => ?_⟩
    · rw [upd_ne hop]
      exact e o _ ho
    have hqn : H1 qa = none := fresh_back x2 hqa
    have hqp : qa ≠ p := by
      intro w
      rw [w, upd_same] at hqa
      cases hqa
    have x3 : Ex H1 (upd (upd H2 p (.dK kvs)) qa (.dK [])) := Ex.mut x2 hqn
    refine hk _ (e.trans x3) _ fun H4 e4 => hv _ (e.trans (x3.trans e4)) _ fun H5 e5 => ⟨z, rfl, (e4.trans e5) qa _ upd_same, ?_, ?_⟩
    · refine (e4.trans e5) p _ ?_
      rw [upd_ne (Ne.symm hqp), upd_same]
    · have x5 := x3.trans (e4.trans e5)
      exact q _ _ (Ex.mut (Ex.mut x5 hqn) hp) ⟨p, rfl, upd_same⟩
/-- a tuple of rows -/
def TupRows (K : PySem.W.Frag) (rows : List Row) : V → Hp → Prop := fun v H' => ∃ t xs, v = .ref t ∧ SqT K H' t xs ∧ RowsAt H' xs rows
theorem gv_catRow {σ : L2.St} {H : Hp} {ta tb tc : TE} {t : Addr} {xs : List V} {rows : List Row} {z : Str} {n : Nat} (ha : Ev ta σ H (.ref t)) (ht : SqT K H t xs) (hr : RowsAt H xs rows) (hl : rows.length ≤ 60) (hb : Ev tb σ H (.str z)) (hc : Ev tc σ H (vN n)) :
    Gv (tOp (rCatA K) ta (tTup (tCons (tTup (tCons tb (tCons tc tNil))) tNil))) σ H (TupRows K (rows ++ [(z, n)])) := fun H1 e Q q =>
  ha H1 e _ fun H2 e2 => gv_tup1 (P0 := fun x H => ∃ a, x = .ref a ∧ H a = some (.tup [.str z, vN n])) (fun x H H' ex h => let ⟨a, h1, h2⟩ := h; ⟨a, h1, ex a _ h2⟩) (EvU.gv (str_and hb hc) fun p H3 h3 => ⟨p, rfl, h3⟩) H2 (e.trans e2) _ fun v H3 e3 hv => by
    obtain ⟨u, x, rfl, hu, a, rfl, haa⟩ := hv
    have y := (e.trans e2).trans e3
    have hxl := hr.1
    refine ⟨t, u, xs, [.ref a], rfl, rfl, ex_t y ht, st_of hu, sz_of (by rw [hxl]; simp only [List.length_singleton]; omega), fun h0 => ?_, fun _ h1 => absurd h1 (by simp), fun _ _ p hp => ?_⟩
    · subst h0
      exact q _ H3 (e2.trans e3) ⟨u, [.ref a], rfl, st_of hu, (hr.mono y).snoc haa⟩
    · exact q _ _ ((e2.trans e3).trans (Ex.new hp)) ⟨p, xs ++ [.ref a], rfl, st_of upd_same, ((hr.mono y).snoc haa).mono (Ex.new hp)⟩
theorem find_rev (rows : List Row) (n : Nat) (z : Str) : firstName (rows ++ [(z, n)]) n = if rows.reverse.any (fun r => decide (r.2 = n)) = true then firstName rows n else z := by
  unfold firstName
  rw [List.find?_append]
  by_cases h : rows.reverse.any (fun r => decide (r.2 = n)) = true
  · rw [if_pos h]
    rw [List.any_eq_true] at h
    obtain ⟨r, hr, h2⟩ := h
    have h3 : ∃ q, rows.find? (fun r => r.2 == n) = some q := by
      cases h4 : rows.find? (fun r => r.2 == n) with
      | some q => exact ⟨q, rfl⟩
      | none =>
        have h5 := List.find?_eq_none.mp h4 r (List.mem_reverse.mp hr)
        simp at h5
        exact absurd (of_decide_eq_true h2) h5
    obtain ⟨q, hq⟩ := h3
    rw [hq]
    rfl
  · rw [if_neg h]
    have h4 : rows.find? (fun r => r.2 == n) = none := by
      rw [List.find?_eq_none]
      intro r hr h5
      refine h (List.any_eq_true.mpr ⟨r, List.mem_reverse.mpr hr, decide_eq_true ?_⟩)
      simpa using h5
    rw [h4]
    simp
theorem firstName_app (rows : List Row) (q : Row) {v : Nat} (h : ∃ r ∈ rows, r.2 = v) : firstName (rows ++ [q]) v = firstName rows v := by
  unfold firstName
  rw [List.find?_append]
  cases h4 : rows.find? (fun r => r.2 == v) with
  | some q => rfl
  | none =>
    obtain ⟨r, hr, h2⟩ := h
    have h5 := List.find?_eq_none.mp h4 r hr
    simp at h5
    exact absurd h2 h5
theorem firstsOf_app (rows : List Row) (z : Str) (n : Nat) : firstsOf (rows ++ [(z, n)]) = firstsOf rows ++ [(Sum.inr z, .str (firstName (rows ++ [(z, n)]) n))] := by
  unfold firstsOf
  rw [List.map_append]
  congr 1
  exact List.map_congr_left fun r hr => by rw [firstName_app rows (z, n) ⟨r, hr, rfl⟩]
theorem Wf.left {rows : List Row} {q : Row} (w : Wf (rows ++ [q])) : Wf rows := ⟨by have := w.small; rw [List.length_append] at this; omega, fun r h => w.vals r (List.mem_append_left _ h), by
  have := w.nd
  rw [List.map_append] at this
  exact (List.nodup_append.mp this).1, fun r h => w.nm r (List.mem_append_left _ h)⟩
theorem Wf.fresh {rows : List Row} {q : Row} (w : Wf (rows ++ [q])) : ∀ r ∈ rows, r.1 ≠ q.1 := fun r h e => by
  have := w.nd
  rw [List.map_append, List.nodup_append] at this
  exact this.2.2 r.1 (List.mem_map.mpr ⟨r, h, rfl⟩) q.1 (by simp) e
def spWithMember (K : PySem.W.Frag) : Sp := mkSp fun vs H P => ∃ (r : Addr) (z : Str) (n : Nat) (rows : List Row), vs = [.ref r, .str z, vN n] ∧ RecAt K H r rows ∧ Wf (rows ++ [(z, n)]) ∧ P = RecV K (rows ++ [(z, n)])
theorem any_take (l : List Row) (n i : Nat) (r : Row) (h : l[i]? = some r) : (l.take (i + 1)).any (fun q => decide (q.2 = n)) = ((l.take i).any (fun q => decide (q.2 = n)) || decide (r.2 = n)) := by
  rw [List.take_add_one, h, List.any_append]
  simp
theorem rows_rev {H : Hp} {xs : List V} {rows : List Row} (h : RowsAt H xs rows) : RowsAt H xs.reverse rows.reverse := by
  refine ⟨by rw [List.length_reverse, List.length_reverse, h.1], fun i r hr => ?_⟩
  have hi := (List.getElem?_eq_some_iff.mp hr).1
  rw [List.length_reverse] at hi
  rw [List.getElem?_reverse hi] at hr
  obtain ⟨a, h1, h2⟩ := h.2 _ r hr
  refine ⟨a, ?_, h2⟩
  rw [List.getElem?_reverse (by rw [h.1]; exact hi), h.1]
  exact h1
theorem sc_with_member : FnScope ["record", "name", "value", "first", "other", "held", "rows", "firsts"] ["record", "name", "value"] (defScope s_with_member) := ⟨rfl, rfl, rfl, by decide +kernel, rfl, by decide +kernel, by decide +kernel⟩
theorem fn_with_member (T : Tx P w K mg) : ∃ fd, Fn P w K mg base 3 "with_member" ["record", "name", "value"] (spWithMember K) fd := by
  obtain ⟨fd, F⟩ := T.f_with_member
  obtain ⟨fdR, dsR, dvR, I_Record⟩ := in_Record (base := base) T
  have nd := sc_with_member.nd
  refine ⟨fd, ⟨F.ok sc_with_member (fun vs H Q E h => ?_) (fun cdv A outer s H vs Q E hr h => ⟨_, PSs.nox ((pss_cons (ps_set (i := 3) nd rfl (Or.inl rfl) (pv 1))
  (pss_cons (ps_for PassesOwn.never rfl (piK_tup (K := K) (peK_revT (K := K) (pe_fldK (K := K) (pv 0) rfl))) (pgK_tup (K := K) (n := 2) rfl (pgs_cons (pg_name (i := 4) nd rfl (Or.inl rfl)) (pgs_cons (pg_name (i := 5) nd rfl (Or.inl rfl)) pgs_nil))) (pss_one (ps_if (pt_cmpR op_eq (pv 5) (pv 2) (nomark _)) (pss_one (ps_set (i := 3) nd rfl (Or.inl rfl) (pe_dget (hu_of hr) (pe_fldK (K := K) (pv 0) rfl) (pv 4) (fun _ _ => rfl)))) pss_nil)))
  (pss_cons (ps_par (i := 6) (j := 7) rfl nd rfl rfl (by decide) rfl rfl (pa_cons (pe_op (opK_catA (K := K)) (pe_fldK (K := K) (pv 0) rfl) (pe_tup (pa_cons (pe_tup (pa_cons (pv 1) (pa_cons (pv 2) pa_nil))) pa_nil))) (pa_cons (pe_starD (pe_fldK (K := K) (pv 0) rfl) (pv 1) (pv 3)) pa_nil)) (by rfl))
  (pss_one (ps_ret (pe_make I_Record.mkC I_Record.ok (hr.mono (by decide)) rfl T.m_Record I_Record.b .nil pass0 (pa_cons (pv 6) (pa_cons (pv 7) (pa_cons (pe_fldK (K := K) (pv 0) rfl) (pa_cons (pe_fldK (K := K) (pv 0) rfl) (pa_cons (pe_fldK (K := K) (pv 0) rfl) (pa_cons (pe_fldK (K := K) (pv 0) rfl) pa_nil))))))))))))), ?_⟩), F.bindsN fun _ _ _ _ _ _ us hl => match us, hl with | [_, _, _], _ => rfl, F.kp, T.m_with_member⟩⟩
  · obtain ⟨_, h, _⟩ := h
    obtain ⟨r, z, n, rows, rfl, hr, wf, rfl⟩ := h
    rfl
  · obtain ⟨Pz, h, k⟩ := h
    obtain ⟨r, z, n, rows, rfl, hr, wf, rfl⟩ := h
    obtain ⟨dr, t, d, a, b, c, e, xs, hr⟩ := hr
    have wl := wf.left
    refine q_asg (ev_var rfl) fun H1 e1 => ?_
    have hr1 := hr.mono e1
    refine q_forU (el_revT (f_rows T (ev_var rfl) hr1) hr1.tup) (fun H2 i σ' H' => Ex H2 H' ∧ Ex H1 H' ∧ ∃ o1 o2, σ' = [some (.ref r), some (.str z), some (vN n), some (.str (if (rows.reverse.take i).any (fun q => decide (q.2 = n)) = true then firstName rows n else z)), o1, o2, none, none]) (fun H2 i σ' H' q => q.1)
      (fun H2 e2 => ⟨Ex.refl _, e2, none, none, rfl⟩) (fun H2 i x σ' H' e2 hx q => ?_) fun H2 σ' H' e2 q => ?_
    · obtain ⟨q1, q2, o1, o2, rfl⟩ := q
      have hr2 := hr1.mono q2
      obtain ⟨u, ua, hu, rfl, hua⟩ := (rows_rev hr2.rws).at hx
      refine g_two (st_of hua) ?_
      have hmem : u ∈ rows := List.mem_reverse.mp (List.mem_of_getElem? hu)
      refine s_when (et_test (ev_op (ev_var rfl) (ev_var rfl) rv_eqN)) (fun hb H3 e3 => ?_) fun hb H3 e3 => ?_
      · have hun := of_decide_eq_true hb
        refine s_asg (ev_dget (f_firsts T (ev_var rfl) (hr2.mono e3)) (ev_var rfl) (hr2.mono e3).fst (valV_firsts rows rows wl.nd u hmem)) fun H4 e4 => ⟨q1.trans (e3.trans e4), q2.trans (e3.trans e4), some (.str u.1), some (vN u.2), ?_⟩
        rw [any_take _ n i u hu, hb, Bool.or_true, hun]
        rfl
      · refine ⟨q1.trans e3, q2.trans e3, some (.str u.1), some (vN u.2), ?_⟩
        rw [any_take _ n i u hu, hb, Bool.or_false]
        rfl
    · obtain ⟨q1, q2, o1, o2, rfl⟩ := q
      have hln : xs.reverse.length = rows.reverse.length := by rw [List.length_reverse, List.length_reverse, hr.rws.1]
      rw [hln, List.take_length, ← find_rev]
      have hr2 := hr1.mono q2
      have hsm := wl.small
      refine q_par (P2 := fun _ => DictV (putK (firstsOf rows) (.inr z) (.str (firstName (rows ++ [(z, n)]) n)))) (gv_catRow (f_rows T (ev_var rfl) hr2) hr2.tup hr2.rws hsm (ev_var rfl) (ev_var rfl)) (fun v H3 e3 _ => gv_star (f_firsts T (ev_var rfl) (hr2.mono e3)) (hr2.mono e3).fst (ev_var rfl) (ev_var rfl) (by unfold firstsOf; rw [List.length_map]; omega)) fun v v2 H3 H4 e3 hv e4 hv2 => ?_
      obtain ⟨t2, xs2, rfl, ht2, hr3⟩ := hv
      obtain ⟨d2, rfl, hd2⟩ := hv2
      have hf : putK (firstsOf rows) (.inr z) (.str (firstName (rows ++ [(z, n)]) n)) = firstsOf (rows ++ [(z, n)]) := by
        rw [firstsOf_app]
        refine putK_new fun kv hkv => ?_
        unfold firstsOf at hkv
        obtain ⟨q, hq, rfl⟩ := List.mem_map.mp hkv
        exact fun w => wf.fresh q hq (Sum.inr.inj w)
      rw [hf] at hd2
      have hr4 := hr2.mono (e3.trans e4)
      exact s_retG (gv_makeRec (ea_cons (ev_var rfl) (ea_cons (ev_var rfl) (ea_cons (f_attrs T (ev_var rfl) hr4) (ea_cons (f_meths T (ev_var rfl) hr4) (ea_cons (f_rule T (ev_var rfl) hr4) (ea_cons (f_miss T (ev_var rfl) hr4) ea_nil)))))) (ex_t e4 ht2) (hr3.mono e4) hr4.rul hr4.mis (Or.inr ⟨d2, rfl, hd2⟩) (Or.inr ⟨_, rfl, hr4.atr⟩) (Or.inr ⟨_, rfl, hr4.mth⟩)) fun v H5 e5 hv => k v H5 (((e1.trans q2).trans (e3.trans e4)).trans e5) hv

end
end EC
end
section
set_option Elab.async false
set_option linter.all false
set_option maxRecDepth 100000
set_option maxHeartbeats 2000000
namespace EC
open PySem PySem.Spec PyProof.Rows L2 Evl
section
variable {P : Program} {w : World} {K : PySem.W.Frag} {mg : Str → Option Value} {base : Heap}
/-- tuples ('set', name, value) -/
def EntsAt (H : Hp) (xs : List V) (rows : List Row) : Prop := xs.length = rows.length ∧ ∀ (i : Nat) (r : Row), rows[i]? = some r → ∃ a, xs[i]? = some (.ref a) ∧ H a = some (.tup [.str "set", .str r.1, vN r.2])
theorem EntsAt.mono {H H' : Hp} {xs : List V} {rows : List Row} (e : Ex H H') (h : EntsAt H xs rows) : EntsAt H' xs rows := ⟨h.1, fun i r hr => let ⟨a, h1, h2⟩ := h.2 i r hr; ⟨a, h1, e a _ h2⟩⟩
theorem EntsAt.at {H : Hp} {xs : List V} {rows : List Row} (h : EntsAt H xs rows) {i : Nat} {x : V} (hx : xs[i]? = some x) : ∃ r a, rows[i]? = some r ∧ x = .ref a ∧ H a = some (.tup [.str "set", .str r.1, vN r.2]) := by
  have hi := (List.getElem?_eq_some_iff.mp hx).1
  rw [h.1] at hi
  obtain ⟨a, h1, h2⟩ := h.2 i _ (List.getElem?_eq_getElem hi)
  rw [hx] at h1
  cases h1
  exact ⟨_, a, List.getElem?_eq_getElem hi, rfl, h2⟩
def spFits : Sp := mkSp fun vs H P => ∃ n : Nat, vs = [vN n, .str "flag"] ∧ lt40 n ∧ P = IsV (.bl true)
theorem sc_fits : FnScope ["value", "family"] ["value", "family"] (defScope s_fits) := ⟨rfl, rfl, rfl, by decide +kernel, rfl, by decide +kernel, by decide +kernel⟩
theorem fn_fits (T : Tx P w K mg) : ∃ fd, Fn P w K mg base 3 "fits" ["value", "family"] (spFits) fd := by
  obtain ⟨fd, F⟩ := T.f_fits
  obtain ⟨fdGis_flag_value, Gis_flag_value⟩ := fn_is_flag_value (base := base) T
  obtain ⟨fdGis_integer, Gis_integer⟩ := fn_is_integer (base := base) T
  obtain ⟨fdGis_text, Gis_text⟩ := fn_is_text (base := base) T
  have nd := sc_fits.nd
  refine ⟨fd, ⟨F.ok sc_fits (fun vs H Q E h => ?_) (fun cdv A outer s H vs Q E hr h => ⟨_, PSs.nox ((pss_cons (ps_if (pt_cmpR op_eq (pv 1) pe_str (nomark _)) (pss_one (ps_ret (pe_call Gis_flag_value.ok (hr.mono (by decide)) rfl Gis_flag_value.m Gis_flag_value.kp Gis_flag_value.b .nil pass0 (pa_cons (pv 0) pa_nil)))) pss_nil)
  (pss_cons (ps_if (PW.pt (pw_or (PW.pt (pw_and (pt_cmpR op_eq (pv 1) pe_str (nomark _)) (pw_and1 (pt_not (pt_val (pe_call Gis_integer.ok (hr.mono (by decide)) rfl Gis_integer.m Gis_integer.kp Gis_integer.b .nil pass0 (pa_cons (pv 0) pa_nil))))))) (pw_or1 (PW.pt (pw_and (pt_cmpR op_eq (pv 1) pe_str (nomark _)) (pw_and1 (pt_not (pt_val (pe_call Gis_text.ok (hr.mono (by decide)) rfl Gis_text.m Gis_text.kp Gis_text.b .nil pass0 (pa_cons (pv 0) pa_nil)))))))))) (pss_one (ps_ret pe_bl)) pss_nil)
  (pss_one ps_no)))), ?_⟩), F.bindsN fun _ _ _ _ _ _ us hl => match us, hl with | [_, _], _ => rfl, F.kp, T.m_fits⟩⟩
  · obtain ⟨_, h, _⟩ := h
    obtain ⟨n, rfl, hn, rfl⟩ := h
    rfl
  · obtain ⟨Pz, h, k⟩ := h
    obtain ⟨n, rfl, hn, rfl⟩ := h
    exact q_when (b := true) (et_test (ev_op (ev_var rfl) ev_c (rv_is (rv_eq rfl) (by decide +kernel)))) (fun _ H1 e1 => s_ret (ev_call (ea_cons (ev_var rfl) ea_nil) (spv fun _ _ => ⟨(n : Int), rfl, InFlag.of hn, rfl⟩)) fun H2 e2 => k _ H2 (e1.trans e2) rfl) (fun z => nomatch z)
def spGiven (K : PySem.W.Frag) : Sp := mkSp fun vs H P => ∃ (a : Addr) (z : Str) (n : Nat) (x1 x2 x3 x4 : V), vs = [x1, .ref a, x2, x3, x4] ∧ H a = some (.tup [.str "set", .str z, vN n]) ∧ P = IsV (vN n)
theorem sc_given_value : FnScope ["record", "entry", "family", "start", "bases"] ["record", "entry", "family", "start", "bases"] (defScope s_given_value) := ⟨rfl, rfl, rfl, by decide +kernel, rfl, by decide +kernel, by decide +kernel⟩
theorem fn_given_value (T : Tx P w K mg) : ∃ fd, Fn P w K mg base 1 "given_value" ["record", "entry", "family", "start", "bases"] (spGiven K) fd := by
  obtain ⟨fd, F⟩ := T.f_given_value
  refine ⟨fd, ⟨F.ok sc_given_value (fun vs H Q E h => ?_) (fun cdv A outer s H vs Q E hr h => ⟨_, PSs.nox (pss_one (ps_match1 (pe_ix (ixK_tup (K := K)) (pv 1) pe_int (fun _ _ => rfl)) (pss_one (ps_ret (pe_ix (ixK_tup (K := K)) (pv 1) pe_int (fun _ _ => rfl)))))), ?_⟩), F.bindsN fun _ _ _ _ _ _ us hl => match us, hl with | [_, _, _, _, _], _ => rfl, F.kp, T.m_given_value⟩⟩
  · obtain ⟨_, h, _⟩ := h
    obtain ⟨a, z, n, x1, x2, x3, x4, rfl, ha, rfl⟩ := h
    rfl
  · obtain ⟨Pz, h, k⟩ := h
    obtain ⟨a, z, n, x1, x2, x3, x4, rfl, ha, rfl⟩ := h
    have h1 : Ev (tOp (rIxT K) (tVar 1) (tC (.int 0))) (L2.start ["record", "entry", "family", "start", "bases"] [x1, .ref a, x2, x3, x4]) H (.str "set") := ev_op (ev_var rfl) ev_c (rv_ixT (st_of ha) (at_nat (j := 0) rfl))
    exact h1 H (Ex.refl H) _ fun H1 e1 => ⟨rfl, s_ret (ev_op (ev_var rfl) ev_c (rv_ixT (st_of (e1 a _ ha)) (at_nat (j := 2) rfl))) fun H2 e2 => k _ H2 (e1.trans e2) rfl⟩
def spHasForm (K : PySem.W.Frag) : Sp := mkSp fun vs H P => ∃ (a : Addr) (z : Str) (n : Nat), vs = [.ref a] ∧ H a = some (.tup [.str "set", .str z, vN n]) ∧ nameOk z = true ∧ lt40 n ∧ P = IsV (.bl true)
theorem in2_str {a b c : Str} : inV (.str a) [.str b, .str c] = (decide (b = a) || decide (c = a)) := by
  unfold inV
  simp only [List.any_cons, List.any_nil, Bool.or_false]
  rfl
theorem sc_has_form : FnScope ["thing", "word", "part"] ["thing"] (defScope s_has_form) := ⟨rfl, rfl, rfl, by decide +kernel, rfl, by decide +kernel, by decide +kernel⟩
theorem fn_has_form (T : Tx P w K mg) : ∃ fd, Fn P w K mg base 4 "has_form" ["thing"] (spHasForm K) fd := by
  obtain ⟨fd, F⟩ := T.f_has_form
  obtain ⟨fdGis_name, Gis_name⟩ := fn_is_name (base := base) T
  obtain ⟨fdGis_value, Gis_value⟩ := fn_is_value (base := base) T
  obtain ⟨esZ, nZ, DZ⟩ := T.sizes
  obtain ⟨tZ, hZ⟩ := T.sizeSet
  have nd := sc_has_form.nd
  refine ⟨fd, ⟨F.ok sc_has_form (fun vs H Q E h => ?_) (fun cdv A outer s H vs Q E hr h => ⟨_, PSs.nox ((pss_cons (ps_if (PW.pt (pw_or (pt_not (pt_val (pe_callB (callK_isi (K := K)) (by rfl) T.b_isinstance bo_isinstance (pa_cons (pv 0) (pa_cons (pe_ty_tuple (by rfl) T.b_tuple) pa_nil))))) (pw_or (pt_cmpR op_eq (pe_callB (callK_len (K := K)) (by rfl) T.b_len PySem.boot_len (pa_cons (pv 0) pa_nil)) pe_int (nomark _)) (pw_or1 (pt_not (pt_val (pe_callB (callK_isi (K := K)) (by rfl) T.b_isinstance bo_isinstance (pa_cons (pe_ix (ixK_tup (K := K)) (pv 0) pe_int (fun _ _ => rfl)) (pa_cons (pe_ty_str (by rfl) T.b_str) pa_nil))))))))) (pss_one (ps_ret pe_bl)) pss_nil)
  (pss_cons (ps_set (i := 1) nd rfl (Or.inl rfl) (pe_ix (ixK_tup (K := K)) (pv 0) pe_int (fun _ _ => rfl)))
  (pss_cons (ps_if (PW.pt (pw_or (pt_cmpR (op_notIn_kd DZ) (pv 1) (pe_gR rfl T.m_SIZES) (by rfl)) (pw_or1 (pt_cmpR op_ne (pe_ix ix_kdict (pe_gR rfl T.m_SIZES) (pv 1) (fun _ _ => rfl)) (pe_callB (callK_len (K := K)) (by rfl) T.b_len PySem.boot_len (pa_cons (pv 0) pa_nil)) (nomark _))))) (pss_one (ps_ret pe_bl)) pss_nil)
  (pss_cons (ps_if (pt_cmpR (opK_in (K := K)) (pv 1) (pe_tup (pa_cons pe_str (pa_cons pe_str pa_nil))) (by rfl)) (pss_one (ps_ret pe_bl)) pss_nil)
  (pss_cons (ps_if (pt_not (pt_val (pe_call Gis_name.ok (hr.mono (by decide)) rfl Gis_name.m Gis_name.kp Gis_name.b .nil pass0 (pa_cons (pe_ix (ixK_tup (K := K)) (pv 0) pe_int (fun _ _ => rfl)) pa_nil)))) (pss_one (ps_ret pe_bl)) pss_nil)
  (pss_cons (ps_if (pt_cmpR (opK_in (K := K)) (pv 1) (pe_tup (pa_cons pe_str (pa_cons pe_str pa_nil))) (by rfl)) (pss_one (ps_ret (pe_call Gis_value.ok (hr.mono (by decide)) rfl Gis_value.m Gis_value.kp Gis_value.b .nil pass0 (pa_cons (pe_ix (ixK_tup (K := K)) (pv 0) pe_int (fun _ _ => rfl)) pa_nil)))) pss_nil)
  (pss_cons (ps_if (pt_cmpR op_eq (pv 1) pe_str (nomark _)) (pss_one (ps_ret (pe_call Gis_name.ok (hr.mono (by decide)) rfl Gis_name.m Gis_name.kp Gis_name.b .nil pass0 (pa_cons (pe_ix (ixK_tup (K := K)) (pv 0) pe_int (fun _ _ => rfl)) pa_nil)))) pss_nil)
  (pss_one ps_no))))))))), ?_⟩), F.bindsN fun _ _ _ _ _ _ us hl => match us, hl with | [_], _ => rfl, F.kp, T.m_has_form⟩⟩
  · obtain ⟨_, h, _⟩ := h
    obtain ⟨a, z, n, rfl, ha, hz, hn, rfl⟩ := h
    rfl
  · obtain ⟨Pz, h, k⟩ := h
    obtain ⟨a, z, n, rfl, ha, hz, hn, rfl⟩ := h
    have h0 : ∀ {H1 : Hp} {σ : L2.St}, Ex H H1 → σ[0]? = some (some (.ref a)) → Ev (tOp (rIxT K) (tVar 0) (tC (.int 0))) σ H1 (.str "set") := fun e hs => ev_op (ev_var hs) ev_c (rv_ixT (st_of (e a _ ha)) (at_nat (j := 0) rfl))
    refine q_when (b := false) (et_or (a := false) (b := false) (et_not (a := true) (et_B (ei_tup (ev_var rfl) (st_of ha)))) fun _ => et_or (a := false) (b := false) (et_test (ev_op (ev_lenT (ev_var rfl) (st_of ha)) ev_c (rv_is (rv_eq rfl) (congrArg V.bl (eq_nat 3 0))))) fun _ => et_not (a := true) (et_B (ei_str (h0 (Ex.refl _) rfl)))) (fun q => nomatch q) fun _ H1 e1 => ?_
    refine q_asg (h0 e1 rfl) fun H2 e2 => ?_
    have x2 := e1.trans e2
    refine q_when (b := false) (et_or (a := false) (b := false) (et_test (ev_op (ev_var rfl) ev_c (fun H3 _ Q q => ⟨"set", some (.int 3 tZ), rfl, rfl, hZ, q H3 (Ex.refl H3)⟩))) fun _ => et_test (ev_op (ev_op ev_c (ev_var rfl) (fun H3 _ Q q => ⟨_, "set", .int 3, rfl, rfl, ⟨_, _, _, DZ.at_, DZ.lit, hZ, ⟨tZ, rfl⟩⟩, q H3 (Ex.refl H3)⟩)) (ev_lenT (ev_var rfl) (st_of (x2 a _ ha))) (rv_is (rv_ne rfl) (congrArg (fun b => V.bl (!b)) (eq_nat 3 3))))) (fun q => nomatch q) fun _ H3 e3 => ?_
    have x3 := x2.trans e3
    refine q_when (b := false) (et_test (ev_is (ev_inU (ev_var rfl) (eu_tup (ea_cons ev_c (ea_cons ev_c ea_nil)) (by show 2 ≤ 100000; decide)) rfl rfl) (by rw [in2_str]; decide +kernel))) (fun q => nomatch q) fun _ H4 e4 => ?_
    have x4 := x3.trans e4
    refine q_when (b := false) (et_not (a := true) (et_B (ev_call (ea_cons (ev_op (ev_var rfl) ev_c (rv_ixT (st_of (x4 a _ ha)) (at_nat (j := 1) rfl))) ea_nil) (spv fun _ _ => ⟨z, rfl, hz, rfl⟩)))) (fun q => nomatch q) fun _ H5 e5 => ?_
    have x5 := x4.trans e5
    refine q_when (b := true) (et_test (ev_is (ev_inU (ev_var rfl) (eu_tup (ea_cons ev_c (ea_cons ev_c ea_nil)) (by show 2 ≤ 100000; decide)) rfl rfl) (by rw [in2_str]; decide +kernel))) (fun _ H6 e6 => ?_) (fun q => nomatch q)
    have x6 := x5.trans e6
    exact s_ret (ev_call (ea_cons (ev_op (ev_var rfl) ev_c (rv_ixT (st_of (x6 a _ ha)) (at_nat (j := 2) rfl))) ea_nil) (spv fun _ _ => ⟨(n : Int), rfl, InFlag.of hn, rfl⟩)) fun H7 e7 => k _ H7 (x6.trans e7) rfl
def spEnts (K : PySem.W.Frag) (G : List Row → V → Hp → Prop) : Sp := mkSp fun vs H P => ∃ (a : Addr) (xs : List V) (rows : List Row), vs = [.ref a] ∧ SqT K H a xs ∧ EntsAt H xs rows ∧ Wf rows ∧ P = G rows
theorem sc_wrong_form : FnScope ["body", "index", "entry"] ["body"] (defScope s_wrong_form) := ⟨rfl, rfl, rfl, by decide +kernel, rfl, by decide +kernel, by decide +kernel⟩
theorem fn_wrong_form (T : Tx P w K mg) : ∃ fd, Fn P w K mg base 5 "wrong_form" ["body"] (spEnts K fun _ => IsV .non) fd := by
  obtain ⟨fd, F⟩ := T.f_wrong_form
  obtain ⟨fdGhas_form, Ghas_form⟩ := fn_has_form (base := base) T
  have nd := sc_wrong_form.nd
  refine ⟨fd, ⟨F.ok sc_wrong_form (fun vs H Q E h => ?_) (fun cdv A outer s H vs Q E hr h => ⟨_, PSs.nox ((pss_cons (ps_if (PW.pt (pw_or (pt_not (pt_val (pe_callB (callK_isi (K := K)) (by rfl) T.b_isinstance bo_isinstance (pa_cons (pv 0) (pa_cons (pe_ty_tuple (by rfl) T.b_tuple) pa_nil))))) (pw_or1 (pt_cmpR op_gt (pe_callB (callK_len (K := K)) (by rfl) T.b_len PySem.boot_len (pa_cons (pv 0) pa_nil)) (pe_gI rfl T.i_MOST_ENTRIES) (nomark _))))) (pss_one (ps_ret (pe_tup (pa_cons pe_non pa_nil)))) pss_nil)
  (pss_cons (ps_for PassesOwn.never rfl (piK_enumT (K := K) (by rfl) T.b_enumerate (pa_cons (pv 0) pa_nil)) (pgK_tup (K := K) (n := 2) rfl (pgs_cons (pg_name (i := 1) nd rfl (Or.inl rfl)) (pgs_cons (pg_name (i := 2) nd rfl (Or.inl rfl)) pgs_nil))) (pss_one (ps_if (pt_not (pt_val (pe_call Ghas_form.ok (hr.mono (by decide)) rfl Ghas_form.m Ghas_form.kp Ghas_form.b .nil pass0 (pa_cons (pv 2) pa_nil)))) (pss_one (ps_ret (pe_tup (pa_cons (pv 1) pa_nil)))) pss_nil)))
  (pss_one (ps_ret pe_non))))), ?_⟩), F.bindsN fun _ _ _ _ _ _ us hl => match us, hl with | [_], _ => rfl, F.kp, T.m_wrong_form⟩⟩
  · obtain ⟨_, h, _⟩ := h
    obtain ⟨a, xs, rows, rfl, hx, he, wf, rfl⟩ := h
    rfl
  · obtain ⟨Pz, h, k⟩ := h
    obtain ⟨a, xs, rows, rfl, hx, he, wf, rfl⟩ := h
    have hs := wf.small
    have hl := he.1
    have g1 : decide ((60 : Int) < (xs.length : Int)) = false := decide_eq_false (by omega)
    refine q_when (b := false) (et_or (a := false) (b := false) (et_not (a := true) (et_B (ei_tup (ev_var rfl) hx))) fun _ => et_test (ev_op (ev_lenT (ev_var rfl) hx) ev_c (rv_is rv_I0 (by rw [g1])))) (fun q => nomatch q) fun _ H1 e1 => ?_
    refine q_forW walk_enumT (fun _ σ H2 => Ex H1 H2 ∧ ∃ o1 o2, σ = [some (.ref a), o1, o2]) (evi_enumT (ea_cons (ev_var rfl) ea_nil) (ex_t e1 hx)) (fun H2 e2 => ⟨e2, none, none, rfl⟩) (fun _ _ H2 _ q => ex_t (e1.trans q.1) hx) (fun i x σ1 H2 H3 hlt q y => ?_) fun σ1 H2 q => ?_
    · obtain ⟨q1, o1, o2, rfl⟩ := q
      obtain ⟨T1, x1, x2, rfl, hT, rfl, h1, h2⟩ := y
      cases h1
      have x3 := (e1.trans q1).trans (Ex.new (o := .tup [.int (i : Nat), x2]) hT)
      obtain ⟨r, ar, hr1, rfl, hr2⟩ := (he.mono x3).at h2
      have hm := List.mem_of_getElem? hr1
      refine g_two (st_of upd_same) ?_
      exact s_when (b := false) (et_not (a := true) (et_B (ev_call (ea_cons (ev_var rfl) ea_nil) (spv fun H4 e4 => ⟨ar, r.1, r.2, rfl, e4 ar _ hr2, (wf.nm r hm).1, wf.vals r hm, rfl⟩)))) (fun z => nomatch z) fun _ H4 e4 => ⟨(q1.trans (Ex.new hT)).trans e4, _, _, rfl⟩
    · obtain ⟨q1, o1, o2, rfl⟩ := q
      exact s_ret ev_c fun H3 e3 => k _ H3 ((e1.trans q1).trans e3) rfl

end
end EC
end
section
set_option Elab.async false
set_option linter.all false
set_option maxRecDepth 100000
set_option maxHeartbeats 2000000
namespace EC
open PySem PySem.Spec PyProof.Rows L2 Evl
section
variable {P : Program} {w : World} {K : PySem.W.Frag} {mg : Str → Option Value} {base : Heap}
theorem ev_din {σ : L2.St} {H : Hp} {td ty : TE} {d : Addr} {z : Str} {kvs : List (Key × V)} (hy : Ev ty σ H (.str z)) (hd : Ev td σ H (.ref d)) (ha : H d = some (.dK kvs)) : Ev (tDIn ty td) σ H (.bl (valV kvs (Sum.inr z)).isSome) := fun H1 e Q q =>
  hy H1 e _ fun H2 e2 => hd H2 (e.trans e2) _ fun H3 e3 => ⟨d, _, rfl, DGet.k (k := Sum.inr z) (((e.trans e2).trans e3) d _ ha), q H3 (e2.trans e3)⟩
theorem valV_none {kvs : List (Key × V)} {z : Str} (h : ∀ kv ∈ kvs, kv.1 ≠ Sum.inr z) : (valV kvs (Sum.inr z)).isSome = false := by
  unfold valV
  rw [List.find?_eq_none.mpr (fun kv hkv => by simpa using h kv hkv)]
  rfl
def spCarried (K : PySem.W.Frag) : Sp := mkSp fun vs H P => ∃ (r a : Addr) (x1 x2 x3 : V) (z : Str) (n : Nat) (rows : List Row), vs = [.ref r, .ref a, x1, .str "flag", x2, x3] ∧ RecAt K H r rows ∧ H a = some (.tup [.str "set", .str z, vN n]) ∧ Wf (rows ++ [(z, n)]) ∧ P = RecV K (rows ++ [(z, n)])
theorem sc_carried_out : FnScope ["record", "entry", "index", "family", "start", "bases", "value", "word", "name"] ["record", "entry", "index", "family", "start", "bases"] (defScope s_carried_out) := ⟨rfl, rfl, rfl, by decide +kernel, rfl, by decide +kernel, by decide +kernel⟩
theorem fn_carried_out (T : Tx P w K mg) : ∃ fd, Fn P w K mg base 5 "carried_out" ["record", "entry", "index", "family", "start", "bases"] (spCarried K) fd := by
  obtain ⟨fd, F⟩ := T.f_carried_out
  obtain ⟨fdGfits, Gfits⟩ := fn_fits (base := base) T
  obtain ⟨fdGgiven_value, Ggiven_value⟩ := fn_given_value (base := base) T
  obtain ⟨fdGis_reserved, Gis_reserved⟩ := fn_is_reserved (base := base) T
  obtain ⟨fdGwith_member, Gwith_member⟩ := fn_with_member (base := base) T
  have nd := sc_carried_out.nd
  refine ⟨fd, ⟨F.ok sc_carried_out (fun vs H Q E h => ?_) (fun cdv A outer s H vs Q E hr h => ⟨_, PSs.nox ((pss_cons (ps_par (i := 7) (j := 8) rfl nd rfl rfl (by decide) rfl rfl (pa_cons (pe_ix (ixK_tup (K := K)) (pv 1) pe_int (fun _ _ => rfl)) (pa_cons (pe_ix (ixK_tup (K := K)) (pv 1) pe_int (fun _ _ => rfl)) pa_nil)) (by rfl))
  (pss_cons (ps_if (pt_cmpR (opK_in (K := K)) (pv 7) (pe_tup (pa_cons pe_str (pa_cons pe_str pa_nil))) (by rfl)) (pss_cons (ps_if (PW.pt (pw_and (pt_cmpR op_eq (pv 7) pe_str (nomark _)) (pw_and1 (pt_cmpR (opK_neD (K := K) hr.units) (pe_fldK (K := K) (pv 0) rfl) (pe_tup pa_nil) (nomark _))))) (pss_one ps_never) pss_nil)
  (pss_one (ps_ret pe_no))) pss_nil)
  (pss_cons (ps_if (pt_val (pe_call Gis_reserved.ok (hr.mono (by decide)) rfl Gis_reserved.m Gis_reserved.kp Gis_reserved.b .nil pass0 (pa_cons (pv 8) pa_nil))) (pss_one ps_never) pss_nil)
  (pss_cons (ps_if (pt_cmp (pc_din (hu_of hr) (pv 8) (pe_fldK (K := K) (pv 0) rfl))) (pss_one ps_never) pss_nil)
  (pss_cons (ps_if (pt_cmpR (opK_in (K := K)) (pv 7) (pe_tup (pa_cons pe_str (pa_cons pe_str pa_nil))) (by rfl)) (pss_one (ps_ret pe_no)) pss_nil)
  (pss_cons (ps_if (PW.pt (pw_or (pt_cmp (pc_din (hu_of hr) (pv 8) (pe_fldK (K := K) (pv 0) rfl))) (pw_or1 (pt_cmp (pc_din (hu_of hr) (pv 8) (pe_fldK (K := K) (pv 0) rfl)))))) (pss_one ps_never) pss_nil)
  (pss_cons (ps_set (i := 6) nd rfl (Or.inl rfl) (pe_call Ggiven_value.ok (hr.mono (by decide)) rfl Ggiven_value.m Ggiven_value.kp Ggiven_value.b .nil pass0 (pa_cons (pv 0) (pa_cons (pv 1) (pa_cons (pv 3) (pa_cons (pv 4) (pa_cons (pv 5) pa_nil)))))))
  (pss_cons (ps_if (pt_not (pt_val (pe_call Gfits.ok (hr.mono (by decide)) rfl Gfits.m Gfits.kp Gfits.b .nil pass0 (pa_cons (pv 6) (pa_cons (pv 3) pa_nil))))) (pss_one ps_never) pss_nil)
  (pss_one (ps_ret (pe_call Gwith_member.ok (hr.mono (by decide)) rfl Gwith_member.m Gwith_member.kp Gwith_member.b .nil pass0 (pa_cons (pv 0) (pa_cons (pv 8) (pa_cons (pv 6) pa_nil))))))))))))))), ?_⟩), F.bindsN fun _ _ _ _ _ _ us hl => match us, hl with | [_, _, _, _, _, _], _ => rfl, F.kp, T.m_carried_out⟩⟩
  · obtain ⟨_, h, _⟩ := h
    obtain ⟨r, a, x1, x2, x3, z, n, rows, rfl, hr, ha, wf, rfl⟩ := h
    rfl
  · obtain ⟨Pz, h, k⟩ := h
    obtain ⟨r, a, x1, x2, x3, z, n, rows, rfl, hr, ha, wf, rfl⟩ := h
    obtain ⟨dr, t, d, a1, b, c, e, xs, hr⟩ := hr
    have hz : nameOk z = true ∧ PyData.strOk z = true := wf.nm (z, n) (by simp)
    have hn : lt40 n := wf.vals (z, n) (by simp)
    have n1 : ∀ kv ∈ firstsOf rows, kv.1 ≠ Sum.inr z := fun kv hkv => by
      unfold firstsOf at hkv
      obtain ⟨q, hq, rfl⟩ := List.mem_map.mp hkv
      exact fun w => wf.fresh q hq (Sum.inr.inj w)
    refine q_par (P2 := fun _ => IsV (.str z)) (Ev.gv (ev_op (z := .str "set") (ev_var rfl) ev_c (rv_ixT (st_of ha) (at_nat (j := 0) rfl)))) (fun v H1 e1 _ => Ev.gv (ev_op (ev_var rfl) ev_c (rv_ixT (st_of (e1 a _ ha)) (at_nat (j := 1) rfl)))) fun v v2 H1 H2 e1 hv e2 hv2 => ?_
    subst hv
    subst hv2
    have y2 := e1.trans e2
    refine q_when (b := false) (et_test (ev_is (ev_inU (ev_var rfl) (eu_tup (ea_cons ev_c (ea_cons ev_c ea_nil)) (by show 2 ≤ 100000; decide)) rfl rfl) (by rw [in2_str]; decide +kernel))) (fun q => nomatch q) fun _ H3 e3 => ?_
    have y3 := y2.trans e3
    refine q_when (b := false) (et_B (ev_call (ea_cons (ev_var rfl) ea_nil) (spv fun _ _ => ⟨z, rfl, hz.1, rfl⟩))) (fun q => nomatch q) fun _ H4 e4 => ?_
    have y4 := y3.trans e4
    refine q_when (b := false) (et_test (ev_is (ev_din (ev_var rfl) (f_firsts T (ev_var rfl) (hr.mono y4)) (hr.mono y4).fst) (by rw [valV_none n1]))) (fun q => nomatch q) fun _ H5 e5 => ?_
    have y5 := y4.trans e5
    refine q_when (b := false) (et_test (ev_is (ev_inU (ev_var rfl) (eu_tup (ea_cons ev_c (ea_cons ev_c ea_nil)) (by show 2 ≤ 100000; decide)) rfl rfl) (by rw [in2_str]; decide +kernel))) (fun q => nomatch q) fun _ H6 e6 => ?_
    have y6 := y5.trans e6
    have hr6 := hr.mono y6
    refine q_when (b := false) (et_or (a := false) (b := false) (et_test (ev_din (ev_var rfl) (f_attrs T (ev_var rfl) hr6) hr6.atr)) fun _ => et_test (ev_din (ev_var rfl) (f_meths T (ev_var rfl) hr6) hr6.mth)) (fun q => nomatch q) fun _ H7 e7 => ?_
    have y7 := y6.trans e7
    refine q_asg (ev_call (ea_cons (ev_var rfl) (ea_cons (ev_var rfl) (ea_cons (ev_var rfl) (ea_cons (ev_var rfl) (ea_cons (ev_var rfl) ea_nil))))) (spv fun H8 e8 => ⟨a, z, n, _, _, _, _, rfl, (y7.trans e8) a _ ha, rfl⟩)) fun H8 e8 => ?_
    have y8 := y7.trans e8
    refine q_when (b := false) (et_not (a := true) (et_B (ev_call (ea_cons (ev_var rfl) (ea_cons (ev_var rfl) ea_nil)) (spv fun _ _ => ⟨n, rfl, hn, rfl⟩)))) (fun q => nomatch q) fun _ H9 e9 => ?_
    have y9 := y8.trans e9
    exact s_retG (gv_call (ea_cons (ev_var rfl) (ea_cons (ev_var rfl) (ea_cons (ev_var rfl) ea_nil))) (spg fun H10 e10 => ⟨r, z, n, rows, rfl, ⟨dr, t, d, a1, b, c, e, xs, hr.mono (y9.trans e10)⟩, wf, rfl⟩)) fun v H10 e10 hv => k v H10 (y9.trans e10) hv
theorem Wf.take {rows : List Row} (w : Wf rows) (i : Nat) : Wf (rows.take i) := ⟨by rw [List.length_take]; have := w.small; omega, fun r h => w.vals r (List.mem_of_mem_take h), by
  rw [List.map_take]
  exact w.nd.sublist (List.take_sublist _ _), fun r h => w.nm r (List.mem_of_mem_take h)⟩
theorem gv_makeRec0 {σ : L2.St} {H : Hp} {E : XK} {dvs : List V} (hd : RecDf K dvs) : Gv (tMake (C_Record K) (spRecInit K) dvs E tNil) σ H (RecV K []) := fun H1 x Q q p dx hp hdx hne => by
  obtain ⟨a, b, c, rfl, ha, hb, hc⟩ := hd.ex
  exact ⟨p, a, b, c, .non, .non, .non, H1, dx, [], [], rfl, ⟨hp, hdx, hne, rfl⟩, ha.at, RowsAt.nil _, hb.at, hc.at, Or.inl ⟨rfl, rfl⟩, Or.inl ⟨rfl, rfl⟩, Or.inl ⟨rfl, rfl⟩, fun H3 e3 hm => ⟨rfl, q _ H3 e3 ⟨p, rfl, hm⟩⟩⟩
def spAllCarried (K : PySem.W.Frag) : Sp := mkSp fun vs H P => ∃ (a : Addr) (x2 x3 : V) (xs : List V) (rows : List Row), vs = [.ref a, .str "flag", x2, x3] ∧ SqT K H a xs ∧ EntsAt H xs rows ∧ Wf rows ∧ P = RecV K rows
theorem sc_all_carried_out : FnScope ["entries", "family", "start", "bases", "record", "index", "entry"] ["entries", "family", "start", "bases"] (defScope s_all_carried_out) := ⟨rfl, rfl, rfl, by decide +kernel, rfl, by decide +kernel, by decide +kernel⟩
theorem fn_all_carried_out (T : Tx P w K mg) : ∃ fd, Fn P w K mg base 6 "all_carried_out" ["entries", "family", "start", "bases"] (spAllCarried K) fd := by
  obtain ⟨fd, F⟩ := T.f_all_carried_out
  obtain ⟨fdR, dsR, dvR, I_Record⟩ := in_Record (base := base) T
  obtain ⟨fdG, Gcarried_out⟩ := fn_carried_out (base := base) T
  have nd := sc_all_carried_out.nd
  refine ⟨fd, ⟨F.ok sc_all_carried_out (fun vs H Q E h => ?_) (fun cdv A outer s H vs Q E hr h => ⟨_, PSs.nox ((pss_cons (ps_set (i := 4) nd rfl (Or.inl rfl) (pe_make0 I_Record.mkC I_Record.ok (hr.mono (by decide)) rfl T.m_Record I_Record.b0 I_Record.dv pass0))
  (pss_cons (ps_for PassesOwn.never rfl (piK_enumT (K := K) (by rfl) T.b_enumerate (pa_cons (pv 0) pa_nil)) (pgK_tup (K := K) (n := 2) rfl (pgs_cons (pg_name (i := 5) nd rfl (Or.inl rfl)) (pgs_cons (pg_name (i := 6) nd rfl (Or.inl rfl)) pgs_nil))) (pss_one (ps_set (i := 4) nd rfl (Or.inl rfl) (pe_call Gcarried_out.ok (hr.mono (by decide)) rfl Gcarried_out.m Gcarried_out.kp Gcarried_out.b .nil pass0 (pa_cons (pv 4) (pa_cons (pv 6) (pa_cons (pv 5) (pa_cons (pv 1) (pa_cons (pv 2) (pa_cons (pv 3) pa_nil))))))))))
  (pss_one (ps_ret (pv 4)))))), ?_⟩), F.bindsN fun _ _ _ _ _ _ us hl => match us, hl with | [_, _, _, _], _ => rfl, F.kp, T.m_all_carried_out⟩⟩
  · obtain ⟨_, h, _⟩ := h
    obtain ⟨a, x2, x3, xs, rows, rfl, hx, he, wf, rfl⟩ := h
    rfl
  · obtain ⟨Pz, h, k⟩ := h
    obtain ⟨a, x2, x3, xs, rows, rfl, hx, he, wf, rfl⟩ := h
    have hl := he.1
    refine q_asgG (gv_makeRec0 I_Record.df) fun v H1 e1 hv => ?_
    obtain ⟨r0, rfl, hr0⟩ := hv
    refine q_forW walk_enumT (fun i σ H2 => Ex H H2 ∧ ∃ r o1 o2, RecAt K H2 r (rows.take i) ∧ σ = [some (.ref a), some (.str "flag"), some x2, some x3, some (.ref r), o1, o2]) (evi_enumT (ea_cons (ev_var rfl) ea_nil) (ex_t e1 hx)) (fun H2 e2 => ⟨e1.trans e2, r0, none, none, hr0.mono e2, rfl⟩) (fun _ _ H2 _ q => ex_t q.1 hx) (fun i x σ1 H2 H3 hlt q y => ?_) fun σ1 H2 q => ?_
    · obtain ⟨q1, r, o1, o2, q2, rfl⟩ := q
      obtain ⟨T1, y1, y2, rfl, hT, rfl, h1, h2⟩ := y
      cases h1
      have x3 := q1.trans (Ex.new (o := .tup [.int (i : Nat), y2]) hT)
      obtain ⟨u, ar, hu, rfl, hua⟩ := (he.mono x3).at h2
      have ht : rows.take (i + 1) = rows.take i ++ [(u.1, u.2)] := by
        rw [List.take_add_one, hu]
        rfl
      refine g_two (st_of upd_same) ?_
      refine s_asgG (gv_call (ea_cons (ev_var rfl) (ea_cons (ev_var rfl) (ea_cons (ev_var rfl) (ea_cons (ev_var rfl) (ea_cons (ev_var rfl) (ea_cons (ev_var rfl) ea_nil)))))) (spg fun H4 e4 => ⟨r, ar, _, _, _, u.1, u.2, rows.take i, rfl, q2.mono ((Ex.new hT).trans e4), e4 ar _ hua, ht ▸ wf.take (i + 1), rfl⟩)) fun v H4 e4 hv => ?_
      obtain ⟨r2, rfl, hr2⟩ := hv
      exact ⟨x3.trans e4, r2, _, _, by rw [ht]; exact hr2, rfl⟩
    · obtain ⟨q1, r, o1, o2, q2, rfl⟩ := q
      rw [hl, List.take_length] at q2
      exact s_retG (Gv.imp (Ev.gv (ev_var rfl)) fun v H3 e3 hv => ⟨r, hv, q2.mono e3⟩) fun v H3 e3 hv => k v H3 (q1.trans e3) hv
def spOneOf (K : PySem.W.Frag) : Sp := mkSp fun vs H P => ∃ (z : Str) (a : Addr) (zs : List Str), vs = [.str z, .ref a] ∧ SqT K H a (zs.map V.str) ∧ z ∈ zs ∧ P = IsV (.bl true)
theorem inV_strs {z : Str} {zs : List Str} (h : z ∈ zs) : inV (.str z) (zs.map V.str) = true := by
  unfold inV
  rw [List.any_eq_true]
  exact ⟨.str z, List.mem_map.mpr ⟨z, h, rfl⟩, decide_eq_true rfl⟩
theorem flat_strs (zs : List Str) : (zs.map V.str).all flatV = true := by
  rw [List.all_eq_true]
  intro v hv
  obtain ⟨x, _, rfl⟩ := List.mem_map.mp hv
  rfl
theorem sc_is_one_of : FnScope ["value", "words"] ["value", "words"] (defScope s_is_one_of) := ⟨rfl, rfl, rfl, by decide +kernel, rfl, by decide +kernel, by decide +kernel⟩
theorem fn_is_one_of (T : Tx P w K mg) : ∃ fd, Fn P w K mg base 1 "is_one_of" ["value", "words"] (spOneOf K) fd := by
  obtain ⟨fd, F⟩ := T.f_is_one_of
  have nd := sc_is_one_of.nd
  refine ⟨fd, ⟨F.ok sc_is_one_of (fun vs H Q E h => ?_) (fun cdv A outer s H vs Q E hr h => ⟨_, PSs.nox ((pss_one (ps_ret (pe_or (pe_cmpR op_isN (pv 0) pe_non (nomark _)) (pe_one (pe_and (pe_callB (callK_isi (K := K)) (by rfl) T.b_isinstance bo_isinstance (pa_cons (pv 0) (pa_cons (pe_ty_str (by rfl) T.b_str) pa_nil))) (pe_one (pe_cmpR (opK_in (K := K)) (pv 0) (pv 1) (by rfl))))))))), ?_⟩), F.bindsN fun _ _ _ _ _ _ us hl => match us, hl with | [_, _], _ => rfl, F.kp, T.m_is_one_of⟩⟩
  · obtain ⟨_, h, _⟩ := h
    obtain ⟨z, a, zs, rfl, ha, hz, rfl⟩ := h
    rfl
  · obtain ⟨Pz, h, k⟩ := h
    obtain ⟨z, a, zs, rfl, ha, hz, rfl⟩ := h
    exact s_ret (ev_orV (a := false) (b := true) (ev_op (ev_var rfl) ev_c (fun H1 _ Q q => ⟨rfl, q H1 (Ex.refl H1)⟩)) fun _ => ev_andV (a := true) (b := true) (ei_str (ev_var rfl)) fun _ => ev_op (ev_var rfl) (ev_var rfl) (rv_is (rv_isT ha rfl (flat_strs zs)) (by rw [inV_strs hz]))) fun H1 e1 => k _ H1 e1 rfl
def spNeedForm (K : PySem.W.Frag) : Sp := mkSp fun vs H P => ∃ (z : Str) (a : Addr) (xs : List V) (rows : List Row), vs = [.str z, .ref a] ∧ nameOk z = true ∧ SqT K H a xs ∧ EntsAt H xs rows ∧ Wf rows ∧ P = IsV .non
theorem sc_need_form : FnScope ["name", "body", "fault"] ["name", "body"] (defScope s_need_form) := ⟨rfl, rfl, rfl, by decide +kernel, rfl, by decide +kernel, by decide +kernel⟩
theorem fn_need_form (T : Tx P w K mg) : ∃ fd, Fn P w K mg base 6 "need_form" ["name", "body"] (spNeedForm K) fd := by
  obtain ⟨fd, F⟩ := T.f_need_form
  obtain ⟨fdGis_name, Gis_name⟩ := fn_is_name (base := base) T
  obtain ⟨fdGis_reserved, Gis_reserved⟩ := fn_is_reserved (base := base) T
  obtain ⟨fdGwrong_form, Gwrong_form⟩ := fn_wrong_form (base := base) T
  have nd := sc_need_form.nd
  refine ⟨fd, ⟨F.ok sc_need_form (fun vs H Q E h => ?_) (fun cdv A outer s H vs Q E hr h => ⟨_, PSs.nox ((pss_cons (ps_if (PW.pt (pw_or (pt_not (pt_val (pe_call Gis_name.ok (hr.mono (by decide)) rfl Gis_name.m Gis_name.kp Gis_name.b .nil pass0 (pa_cons (pv 0) pa_nil)))) (pw_or1 (pt_val (pe_call Gis_reserved.ok (hr.mono (by decide)) rfl Gis_reserved.m Gis_reserved.kp Gis_reserved.b .nil pass0 (pa_cons (pv 0) pa_nil)))))) (pss_one ps_never) pss_nil)
  (pss_cons (ps_set (i := 2) nd rfl (Or.inl rfl) (pe_call Gwrong_form.ok (hr.mono (by decide)) rfl Gwrong_form.m Gwrong_form.kp Gwrong_form.b .nil pass0 (pa_cons (pv 1) pa_nil)))
  (pss_one (ps_if (pt_cmpR op_notN (pv 2) pe_non (nomark _)) (pss_one ps_never) pss_nil))))), ?_⟩), F.bindsN fun _ _ _ _ _ _ us hl => match us, hl with | [_, _], _ => rfl, F.kp, T.m_need_form⟩⟩
  · obtain ⟨_, h, _⟩ := h
    obtain ⟨z, a, xs, rows, rfl, hz, hx, he, wf, rfl⟩ := h
    rfl
  · obtain ⟨Pz, h, k⟩ := h
    obtain ⟨z, a, xs, rows, rfl, hz, hx, he, wf, rfl⟩ := h
    refine q_when (b := false) (et_or (a := false) (b := false) (et_not (a := true) (et_B (ev_call (ea_cons (ev_var rfl) ea_nil) (spv fun _ _ => ⟨z, rfl, hz, rfl⟩)))) fun _ => et_B (ev_call (ea_cons (ev_var rfl) ea_nil) (spv fun _ _ => ⟨z, rfl, hz, rfl⟩))) (fun q => nomatch q) fun _ H1 e1 => ?_
    refine q_asg (ev_call (ea_cons (ev_var rfl) ea_nil) (spv fun H2 e2 => ⟨a, xs, rows, rfl, ex_t (e1.trans e2) hx, he.mono (e1.trans e2), wf, rfl⟩)) fun H2 e2 => ?_
    exact s_when (b := false) (et_test (ev_op (ev_var rfl) ev_c (fun H1 _ Q q => ⟨rfl, q H1 (Ex.refl H1)⟩))) (fun q => nomatch q) fun _ H3 e3 => k _ H3 ((e1.trans e2).trans e3) rfl
def spOptions : Sp := mkSp fun vs H P => ∃ z : Str, vs = [.str "flag", .str z, .non] ∧ z ∈ ([("strict" : Str), "conform", "eject", "keep"] : List Str) ∧ P = IsV .non
theorem sc_need_options : FnScope ["family", "boundary", "start"] ["family", "boundary", "start"] (defScope s_need_options) := ⟨rfl, rfl, rfl, by decide +kernel, rfl, by decide +kernel, by decide +kernel⟩
theorem fn_need_options (T : Tx P w K mg) : ∃ fd, Fn P w K mg base 2 "need_options" ["family", "boundary", "start"] (spOptions) fd := by
  obtain ⟨fd, F⟩ := T.f_need_options
  obtain ⟨fdGis_integer, Gis_integer⟩ := fn_is_integer (base := base) T
  obtain ⟨fdGis_one_of, Gis_one_of⟩ := fn_is_one_of (base := base) T
  have nd := sc_need_options.nd
  refine ⟨fd, ⟨F.ok sc_need_options (fun vs H Q E h => ?_) (fun cdv A outer s H vs Q E hr h => ⟨_, PSs.nox ((pss_cons (ps_if (pt_not (pt_val (pe_call Gis_one_of.ok (hr.mono (by decide)) rfl Gis_one_of.m Gis_one_of.kp Gis_one_of.b .nil pass0 (pa_cons (pv 0) (pa_cons (pe_gR rfl T.t_FAMILIES) pa_nil))))) (pss_one ps_never) pss_nil)
  (pss_cons (ps_if (pt_not (pt_val (pe_call Gis_one_of.ok (hr.mono (by decide)) rfl Gis_one_of.m Gis_one_of.kp Gis_one_of.b .nil pass0 (pa_cons (pv 1) (pa_cons (pe_gR rfl T.t_BOUNDARIES) pa_nil))))) (pss_one ps_never) pss_nil)
  (pss_one (ps_if (PW.pt (pw_and (pt_cmpR op_notN (pv 2) pe_non (nomark _)) (pw_and1 (PW.pt (pw_or (pt_not (pt_val (pe_call Gis_integer.ok (hr.mono (by decide)) rfl Gis_integer.m Gis_integer.kp Gis_integer.b .nil pass0 (pa_cons (pv 2) pa_nil)))) (pw_or1 (pt_not (pt_chain op_le op_le pe_int (pv 2) (pe_gI rfl T.i_MOST_START))))))))) (pss_one ps_never) pss_nil))))), ?_⟩), F.bindsN fun _ _ _ _ _ _ us hl => match us, hl with | [_, _, _], _ => rfl, F.kp, T.m_need_options⟩⟩
  · obtain ⟨_, h, _⟩ := h
    obtain ⟨z, rfl, hz, rfl⟩ := h
    rfl
  · obtain ⟨Pz, h, k⟩ := h
    obtain ⟨z, rfl, hz, rfl⟩ := h
    refine q_when (b := false) (et_not (a := true) (et_B (ev_call (ea_cons (ev_var rfl) (ea_cons ev_c ea_nil)) (spv fun H1 e1 => ⟨"flag", _, [("any" : Str), "integer", "text", "flag"], rfl, T.u_FAMILIES.at, by simp, rfl⟩)))) (fun q => nomatch q) fun _ H1 e1 => ?_
    refine q_when (b := false) (et_not (a := true) (et_B (ev_call (ea_cons (ev_var rfl) (ea_cons ev_c ea_nil)) (spv fun H2 e2 => ⟨z, _, [("strict" : Str), "conform", "eject", "keep"], rfl, T.u_BOUNDARIES.at, hz, rfl⟩)))) (fun q => nomatch q) fun _ H2 e2 => ?_
    exact s_when (b := false) (et_and (a := false) (b := false) (et_test (ev_op (ev_var rfl) ev_c (fun H1 _ Q q => ⟨rfl, q H1 (Ex.refl H1)⟩))) fun q => nomatch q) (fun q => nomatch q) fun _ H3 e3 => k _ H3 ((e1.trans e2).trans e3) rfl
/-- an empty tuple -/
def spEmpty (K : PySem.W.Frag) : Sp := mkSp fun vs H P => ∃ a : Addr, vs = [.ref a] ∧ SqT K H a [] ∧ P = IsV .non
theorem sc_need_bases : FnScope ["bases", "index", "base"] ["bases"] (defScope s_need_bases) := ⟨rfl, rfl, rfl, by decide +kernel, rfl, by decide +kernel, by decide +kernel⟩
theorem fn_need_bases (T : Tx P w K mg) : ∃ fd, Fn P w K mg base 1 "need_bases" ["bases"] (spEmpty K) fd := by
  obtain ⟨fd, F⟩ := T.f_need_bases
  have nd := sc_need_bases.nd
  refine ⟨fd, ⟨F.ok sc_need_bases (fun vs H Q E h => ?_) (fun cdv A outer s H vs Q E hr h => ⟨_, PSs.nox ((pss_cons (ps_if (PW.pt (pw_or (pt_not (pt_val (pe_callB (callK_isi (K := K)) (by rfl) T.b_isinstance bo_isinstance (pa_cons (pv 0) (pa_cons (pe_ty_tuple (by rfl) T.b_tuple) pa_nil))))) (pw_or1 (pt_cmpR op_gt (pe_callB (callK_len (K := K)) (by rfl) T.b_len PySem.boot_len (pa_cons (pv 0) pa_nil)) (pe_gI rfl T.i_MOST_BASES) (nomark _))))) (pss_one ps_never) pss_nil)
  (pss_one (ps_for PassesOwn.never rfl (piK_enumT (K := K) (by rfl) T.b_enumerate (pa_cons (pv 0) pa_nil)) (pgK_tup (K := K) (n := 2) rfl (pgs_cons (pg_name (i := 1) nd rfl (Or.inl rfl)) (pgs_cons (pg_name (i := 2) nd rfl (Or.inl rfl)) pgs_nil))) pss_no)))), ?_⟩), F.bindsN fun _ _ _ _ _ _ us hl => match us, hl with | [_], _ => rfl, F.kp, T.m_need_bases⟩⟩
  · obtain ⟨_, h, _⟩ := h
    obtain ⟨a, rfl, ha, rfl⟩ := h
    rfl
  · obtain ⟨Pz, h, k⟩ := h
    obtain ⟨a, rfl, ha, rfl⟩ := h
    refine q_when (b := false) (et_or (a := false) (b := false) (et_not (a := true) (et_B (ei_tup (ev_var rfl) ha))) fun _ => et_test (ev_op (ev_lenT (ev_var rfl) ha) ev_c (rv_is rv_I0 (by decide +kernel)))) (fun q => nomatch q) fun _ H1 e1 => ?_
    exact s_forW walk_enumT (fun _ σ H2 => Ex H1 H2) (evi_enumT (ea_cons (ev_var rfl) ea_nil) (ex_t e1 ha)) (fun H2 e2 => e2) (fun _ _ H2 _ q => ex_t (e1.trans q) ha) (fun i x σ1 H2 H3 hlt q y => absurd hlt (Nat.not_lt_zero _)) fun σ1 H2 q => k _ H2 (e1.trans q) rfl
theorem sc_need_checks : FnScope ["checks", "index", "word"] ["checks"] (defScope s_need_checks) := ⟨rfl, rfl, rfl, by decide +kernel, rfl, by decide +kernel, by decide +kernel⟩
theorem fn_need_checks (T : Tx P w K mg) : ∃ fd, Fn P w K mg base 1 "need_checks" ["checks"] (spEmpty K) fd := by
  obtain ⟨fd, F⟩ := T.f_need_checks
  have nd := sc_need_checks.nd
  refine ⟨fd, ⟨F.ok sc_need_checks (fun vs H Q E h => ?_) (fun cdv A outer s H vs Q E hr h => ⟨_, PSs.nox ((pss_cons (ps_if (pt_not (pt_val (pe_callB (callK_isi (K := K)) (by rfl) T.b_isinstance bo_isinstance (pa_cons (pv 0) (pa_cons (pe_ty_tuple (by rfl) T.b_tuple) pa_nil))))) (pss_one ps_never) pss_nil)
  (pss_one (ps_for PassesOwn.never rfl (piK_enumT (K := K) (by rfl) T.b_enumerate (pa_cons (pv 0) pa_nil)) (pgK_tup (K := K) (n := 2) rfl (pgs_cons (pg_name (i := 1) nd rfl (Or.inl rfl)) (pgs_cons (pg_name (i := 2) nd rfl (Or.inl rfl)) pgs_nil))) pss_no)))), ?_⟩), F.bindsN fun _ _ _ _ _ _ us hl => match us, hl with | [_], _ => rfl, F.kp, T.m_need_checks⟩⟩
  · obtain ⟨_, h, _⟩ := h
    obtain ⟨a, rfl, ha, rfl⟩ := h
    rfl
  · obtain ⟨Pz, h, k⟩ := h
    obtain ⟨a, rfl, ha, rfl⟩ := h
    refine q_when (b := false) (et_not (a := true) (et_B (ei_tup (ev_var rfl) ha))) (fun q => nomatch q) fun _ H1 e1 => ?_
    exact s_forW walk_enumT (fun _ σ H2 => Ex H1 H2) (evi_enumT (ea_cons (ev_var rfl) ea_nil) (ex_t e1 ha)) (fun H2 e2 => e2) (fun _ _ H2 _ q => ex_t (e1.trans q) ha) (fun i x σ1 H2 H3 hlt q y => absurd hlt (Nat.not_lt_zero _)) fun σ1 H2 q => k _ H2 (e1.trans q) rfl
def spCheckAll (K : PySem.W.Frag) : Sp := mkSp fun vs H P => ∃ (x : V) (a : Addr), vs = [x, .ref a] ∧ SqT K H a [] ∧ P = IsV .non
theorem sc_check_all : FnScope ["kind", "checks", "word", "doubles", "lacking", "unlisted"] ["kind", "checks"] (defScope s_check_all) := ⟨rfl, rfl, rfl, by decide +kernel, rfl, by decide +kernel, by decide +kernel⟩
theorem fn_check_all (T : Tx P w K mg) : ∃ fd, Fn P w K mg base 1 "check_all" ["kind", "checks"] (spCheckAll K) fd := by
  obtain ⟨fd, F⟩ := T.f_check_all
  have nd := sc_check_all.nd
  refine ⟨fd, ⟨F.ok sc_check_all (fun vs H Q E h => ?_) (fun cdv A outer s H vs Q E hr h => ⟨_, PSs.nox ((pss_one (ps_for PassesOwn.never rfl (piK_tup (K := K) (pv 1)) (pg_name (i := 2) nd rfl (Or.inl rfl)) pss_no))), ?_⟩), F.bindsN fun _ _ _ _ _ _ us hl => match us, hl with | [_, _], _ => rfl, F.kp, T.m_check_all⟩⟩
  · obtain ⟨_, h, _⟩ := h
    obtain ⟨x, a, rfl, ha, rfl⟩ := h
    rfl
  · obtain ⟨Pz, h, k⟩ := h
    obtain ⟨x, a, rfl, ha, rfl⟩ := h
    exact s_forW walk_tup (fun _ σ H2 => Ex H H2) (evi_tup (ev_var rfl) ha) (fun H2 e2 => e2) (fun _ _ H2 _ q => ex_t q ha) (fun i x σ1 H2 H3 hlt q y => absurd hlt (Nat.not_lt_zero _)) fun σ1 H2 q => k _ H2 q rfl
theorem eu_tup_of {σ : L2.St} {H : Hp} {ta : TE} {p : Addr} {xs : List V} (h : Ev ta σ H (.ref p)) (hx : SqL K H p xs) : EvU (tCB (rTupO K) (tCons ta tNil)) σ H xs := fun H1 e Q q =>
  h H1 e _ fun H2 e2 => ⟨p, xs, rfl, Or.inl ⟨ex_l (e.trans e2) hx, fun l hl => q l _ (fresh_back e2 hl) (e2.trans (Ex.new hl)) upd_same⟩⟩
def spLineBehind (K : PySem.W.Frag) : Sp := mkSp fun vs H P => ∃ a : Addr, vs = [.ref a] ∧ SqT K H a [] ∧ P = AnyV
theorem sc_line_behind : FnScope ["bases", "found", "base", "kind"] ["bases"] (defScope s_line_behind) := ⟨rfl, rfl, rfl, by decide +kernel, rfl, by decide +kernel, by decide +kernel⟩
theorem fn_line_behind (T : Tx P w K mg) : ∃ fd, Fn P w K mg base 1 "line_behind" ["bases"] (spLineBehind K) fd := by
  obtain ⟨fd, F⟩ := T.f_line_behind
  have nd := sc_line_behind.nd
  refine ⟨fd, ⟨F.ok sc_line_behind (fun vs H Q E h => ?_) (fun cdv A outer s H vs Q E hr h => ⟨_, PSs.nox ((pss_cons (ps_set (i := 1) nd rfl (Or.inr rfl) (pe_lst pa_nil))
  (pss_cons (ps_for PassesOwn.never rfl (piK_tup (K := K) (pv 0)) (pg_name (i := 2) nd rfl (Or.inl rfl)) pss_no)
  (pss_one (ps_ret (pe_callTy (callK_tuple (K := K)) (by rfl) T.b_tuple bo_tuple (pa_cons (pv 1) pa_nil))))))), ?_⟩), F.bindsN fun _ _ _ _ _ _ us hl => match us, hl with | [_], _ => rfl, F.kp, T.m_line_behind⟩⟩
  · obtain ⟨_, h, _⟩ := h
    obtain ⟨a, rfl, ha, rfl⟩ := h
    rfl
  · obtain ⟨Pz, h, k⟩ := h
    obtain ⟨a, rfl, ha, rfl⟩ := h
    refine q_asgL el_nil fun p H1 hp0 e1 hp => ?_
    refine q_forW walk_tup (fun _ σ H2 => Ex H1 H2 ∧ ∃ o, σ = [some (.ref a), some (.ref p), o, none]) (evi_tup (ev_var rfl) (ex_t e1 ha)) (fun H2 e2 => ⟨e2, none, rfl⟩) (fun _ _ H2 _ q => ex_t (e1.trans q.1) ha) (fun i x σ1 H2 H3 hlt q y => absurd hlt (Nat.not_lt_zero _)) fun σ1 H2 q => ?_
    obtain ⟨q1, o, rfl⟩ := q
    exact s_retG (EvU.gv (P := AnyV) (eu_tup_of (ev_var rfl) (sq_of (q1 p _ hp))) fun _ _ _ => trivial) fun v H3 e3 hv => k v H3 ((e1.trans q1).trans e3) hv
def spFamily (K : PySem.W.Frag) : Sp := mkSp fun vs H P => ∃ a : Addr, vs = [.ref a, .str "flag"] ∧ SqT K H a [] ∧ P = IsV (.str "flag")
theorem sc_family_of : FnScope ["bases", "family", "families", "others", "index", "base", "word"] ["bases", "family"] (defScope s_family_of) := ⟨rfl, rfl, rfl, by decide +kernel, rfl, by decide +kernel, by decide +kernel⟩
theorem fn_family_of (T : Tx P w K mg) : ∃ fd, Fn P w K mg base 1 "family_of" ["bases", "family"] (spFamily K) fd := by
  obtain ⟨fd, F⟩ := T.f_family_of
  have nd := sc_family_of.nd
  refine ⟨fd, ⟨F.ok sc_family_of (fun vs H Q E h => ?_) (fun cdv A outer s H vs Q E hr h => ⟨_, PSs.nox ((pss_cons (ps_for PassesOwn.never rfl (piK_enumT (K := K) (by rfl) T.b_enumerate (pa_cons (pv 0) pa_nil)) (pgK_tup (K := K) (n := 2) rfl (pgs_cons (pg_name (i := 4) nd rfl (Or.inl rfl)) (pgs_cons (pg_name (i := 5) nd rfl (Or.inl rfl)) pgs_nil))) pss_no)
  (pss_cons (ps_setLc (i := 2) (own := [("base", 5)]) rfl nd rfl rfl (sw_true rfl rfl rfl (by decide +kernel)) (piK_tup (K := K) (pv 0)) (blkOk_by (N := ["bases", "family", "families", "others", "index", "base", "word"]) (sc := defScope s_family_of) (by decide +kernel)) (fun _ _ _ _ _ => (pg_name (i := 5) nd rfl (Or.inl rfl))) (fun _ _ _ _ _ => pts_nil) (fun _ _ _ _ _ => (pe_fldK (K := K) (pv 5) rfl)))
  (pss_cons (ps_setLc (i := 3) (own := [("word", 6)]) rfl nd rfl rfl (sw_true rfl rfl rfl (by decide +kernel)) (piK_list (K := K) (pv 2)) (blkOk_by (N := ["bases", "family", "families", "others", "index", "base", "word"]) (sc := defScope s_family_of) (by decide +kernel)) (fun _ _ _ _ _ => (pg_name (i := 6) nd rfl (Or.inl rfl))) (fun _ _ _ _ _ => (pts_one (pt_cmpR op_ne (pv 6) pe_str (nomark _)))) (fun _ _ _ _ _ => (pv 6)))
  (pss_cons (ps_if (pt_cmpR op_isN (pv 1) pe_non (nomark _)) (pss_one (ps_set (i := 1) nd rfl (Or.inl rfl) (pe_ifExp (pt_cmpR (opK_neD (K := K) hr.units) (pv 3) (pe_lst pa_nil) (nomark _)) (pe_ix (ixK_list (K := K)) (pv 3) pe_int (fun _ _ => rfl)) pe_str))) pss_nil)
  (pss_cons (ps_for PassesOwn.never rfl (piK_enum (K := K) (by rfl) T.b_enumerate (pa_cons (pv 2) pa_nil)) (pgK_tup (K := K) (n := 2) rfl (pgs_cons (pg_name (i := 4) nd rfl (Or.inl rfl)) (pgs_cons (pg_name (i := 6) nd rfl (Or.inl rfl)) pgs_nil))) pss_no)
  (pss_one (ps_ret (pv 1))))))))), ?_⟩), F.bindsN fun _ _ _ _ _ _ us hl => match us, hl with | [_, _], _ => rfl, F.kp, T.m_family_of⟩⟩
  · obtain ⟨_, h, _⟩ := h
    obtain ⟨a, rfl, ha, rfl⟩ := h
    rfl
  · obtain ⟨Pz, h, k⟩ := h
    obtain ⟨a, rfl, ha, rfl⟩ := h
    refine q_forW walk_enumT (fun _ σ H2 => Ex H H2 ∧ σ = [some (.ref a), some (.str "flag"), none, none, none, none, none]) (evi_enumT (ea_cons (ev_var rfl) ea_nil) ha) (fun H2 e2 => ⟨e2, rfl⟩) (fun _ _ H2 _ q => ex_t q.1 ha) (fun i x σ1 H2 H3 hlt q y => absurd hlt (Nat.not_lt_zero _)) fun σ1 H1 q => ?_
    obtain ⟨q1, rfl⟩ := q
    refine q_asgL (xs := []) (el_lcW walk_tup (fun _ => true) (fun _ => .non) (evi_tup (ev_var rfl) (ex_t q1 ha)) (Nat.zero_le _) (fun H2 e2 => ex_t (q1.trans e2) ha) (fun i x H2 H3 hlt => absurd hlt (Nat.not_lt_zero _))) fun p H2 _ e2 hp => ?_
    refine q_asgL (xs := []) (el_lcW walk_list (fun _ => true) (fun _ => .non) (evi_list (ev_var rfl) (sq_of hp)) (Nat.zero_le _) (fun H3 e3 => sq_of (e3 p _ hp)) (fun i x H2 H3 hlt => absurd hlt (Nat.not_lt_zero _))) fun p2 H3 _ e3 hp2 => ?_
    refine q_when (b := false) (et_test (ev_op (ev_var rfl) ev_c (fun H1 _ Q q => ⟨rfl, q H1 (Ex.refl H1)⟩))) (fun q => nomatch q) fun _ H4 e4 => ?_
    refine q_forW walk_enum (fun _ σ H5 => Ex H4 H5 ∧ σ = [some (.ref a), some (.str "flag"), some (.ref p), some (.ref p2), none, none, none]) (evi_enum (ea_cons (ev_var rfl) ea_nil) (sq_of ((e3.trans e4) p _ hp))) (fun H2 e2 => ⟨e2, rfl⟩) (fun _ _ H5 _ q => sq_of (q.1 p _ ((e3.trans e4) p _ hp))) (fun i x σ1 H2 H3 hlt q y => absurd hlt (Nat.not_lt_zero _)) fun σ1 H5 q => ?_
    obtain ⟨q5, rfl⟩ := q
    exact s_ret (ev_var rfl) fun H6 e6 => k _ H6 ((((q1.trans e2).trans (e3.trans e4)).trans q5).trans e6) rfl
def spBoundary (K : PySem.W.Frag) : Sp := mkSp fun vs H P => ∃ (a : Addr) (z : Str), vs = [.ref a, .str "flag", .str z] ∧ SqT K H a [] ∧ P = IsV (.str z)
theorem sc_boundary_of : FnScope ["bases", "family", "boundary", "some", "base"] ["bases", "family", "boundary"] (defScope s_boundary_of) := ⟨rfl, rfl, rfl, by decide +kernel, rfl, by decide +kernel, by decide +kernel⟩
theorem fn_boundary_of (T : Tx P w K mg) : ∃ fd, Fn P w K mg base 1 "boundary_of" ["bases", "family", "boundary"] (spBoundary K) fd := by
  obtain ⟨fd, F⟩ := T.f_boundary_of
  have nd := sc_boundary_of.nd
  refine ⟨fd, ⟨F.ok sc_boundary_of (fun vs H Q E h => ?_) (fun cdv A outer s H vs Q E hr h => ⟨_, PSs.nox ((pss_cons (ps_if (pt_cmpR op_ne (pv 1) pe_str (nomark _)) (pss_cons (ps_if (pt_cmpR op_notN (pv 2) pe_non (nomark _)) (pss_one ps_never) pss_nil)
  (pss_one (ps_ret pe_non))) pss_nil)
  (pss_cons (ps_setLc (i := 3) (own := [("base", 4)]) rfl nd rfl rfl (sw_true rfl rfl rfl (by decide +kernel)) (piK_tup (K := K) (pv 0)) (blkOk_by (N := ["bases", "family", "boundary", "some", "base"]) (sc := defScope s_boundary_of) (by decide +kernel)) (fun _ _ _ _ _ => (pg_name (i := 4) nd rfl (Or.inl rfl))) (fun _ _ _ _ _ => (pts_one (pt_cmpR op_eq (pe_fldK (K := K) (pv 4) rfl) pe_str (nomark _)))) (fun _ _ _ _ _ => (pe_fldK (K := K) (pv 4) rfl)))
  (pss_cons (ps_expr (pe_bm PySem.F.plainAttrs_list PySem.F.slot_list_append PySem.F.type_list_append mt_append (pv 3) (pa_cons pe_str pa_nil)))
  (pss_one (ps_ret (pe_ifExp (pt_cmpR op_isN (pv 2) pe_non (nomark _)) (pe_ix (ixK_list (K := K)) (pv 3) pe_int (fun _ _ => rfl)) (pv 2)))))))), ?_⟩), F.bindsN fun _ _ _ _ _ _ us hl => match us, hl with | [_, _, _], _ => rfl, F.kp, T.m_boundary_of⟩⟩
  · obtain ⟨_, h, _⟩ := h
    obtain ⟨a, z, rfl, ha, rfl⟩ := h
    rfl
  · obtain ⟨Pz, h, k⟩ := h
    obtain ⟨a, z, rfl, ha, rfl⟩ := h
    refine q_when (b := false) (et_test (ev_op (ev_var rfl) ev_c (rv_is (rv_ne rfl) (by decide +kernel)))) (fun q => nomatch q) fun _ H1 e1 => ?_
    refine q_asgL (xs := []) (el_lcW walk_tup (fun _ => true) (fun _ => .non) (evi_tup (ev_var rfl) (ex_t e1 ha)) (Nat.zero_le _) (fun H2 e2 => ex_t (e1.trans e2) ha) (fun i x H2 H3 hlt => absurd hlt (Nat.not_lt_zero _))) fun p H2 hp0 e2 hp => ?_
    have hpn : H p = none := fresh_back e1 hp0
    refine q_app hp (ev_var rfl) ev_c (Nat.zero_lt_succ _) fun H3 e3 => ?_
    have x3 : Ex H (upd H3 p (.lst ([] ++ [.str "strict"]))) := Ex.mut ((e1.trans e2).trans e3) hpn
    exact s_ret (ev_if (b := false) (et_test (ev_op (ev_var rfl) ev_c (fun H1 _ Q q => ⟨rfl, q H1 (Ex.refl H1)⟩))) (fun q => nomatch q) fun _ => ev_var rfl) fun H4 e4 => k _ H4 (x3.trans e4) rfl
/-- KindRoot's making -/
def spRoot (K : PySem.W.Frag) : Sp := fun vs H Q _ => ∃ (p b r : Addr) (nm st : V) (bd : Str) (H0 : Hp) (dx : Addr) (rows : List Row), vs = [.ref p, nm, .str "flag", .ref b, .str bd, st, .ref r] ∧ H0 p = none ∧ Ex H0 H ∧ H p = some (.ins (C_Kind K) dx []) ∧ SqT K H0 b [] ∧ RecAt K H r rows ∧
  ∀ H2, Ex H0 H2 → KindAt K H2 p rows bd → Q .non H2

end
end EC
end
section
set_option Elab.async false
set_option linter.all false
set_option maxRecDepth 100000
set_option maxHeartbeats 2000000
namespace EC
open PySem PySem.Spec PyProof.Rows L2 Evl
section
variable {P : Program} {w : World} {K : PySem.W.Frag} {mg : Str → Option Value} {base : Heap}
/-- the heap without p -/
def er (H : Hp) (p : Addr) : Hp := fun a => if a = p then none else H a
theorem er_at {H : Hp} {p : Addr} : er H p p = none := if_pos rfl
theorem er_ne {H : Hp} {p a : Addr} (h : a ≠ p) : er H p a = H a := if_neg h
theorem er_ex {H : Hp} {p : Addr} : Ex (er H p) H := fun a o h => by
  by_cases e : a = p
  · subst e
    rw [er_at] at h
    cases h
  · rw [er_ne e] at h
    exact h
theorem er_base {H0 H : Hp} {p : Addr} (h : H0 p = none) (e : Ex H0 H) : Ex H0 (er H p) := fun a o ha => by
  have ne : a ≠ p := fun z => by
    rw [z, h] at ha
    cases ha
  rw [er_ne ne]
  exact e a o ha
theorem er_keep {H : Hp} {p a C dx : Addr} {o : HO} (hp : H p = some (.ins C dx [])) (h : H a = some o) (hn : ∀ C dx, o ≠ .ins C dx []) : er H p a = some o := by
  have ne : a ≠ p := fun z => by
    rw [z, hp] at h
    cases h
    exact hn _ _ rfl
  rw [er_ne ne]
  exact h
theorem er_sqt {H : Hp} {p a C dx : Addr} {xs : List V} (hp : H p = some (.ins C dx [])) (h : SqT K H a xs) : SqT K (er H p) a xs := by
  rcases h with (h | ⟨o, h⟩) | h
  · exact Or.inl (Or.inl (er_keep hp h fun _ _ z => nomatch z))
  · exact Or.inl (Or.inr ⟨o, er_keep hp h fun _ _ z => nomatch z⟩)
  · exact Or.inr h
theorem er_rec {H : Hp} {p r C dx : Addr} {rows : List Row} (hp : H p = some (.ins C dx [])) (h : RecAt K H r rows) : RecAt K (er H p) r rows := by
  obtain ⟨dr, t, d, a, b, c, e, xs, h⟩ := h
  exact ⟨dr, t, d, a, b, c, e, xs, er_keep hp h.ins (fun _ _ z => nomatch z), er_sqt hp h.tup, ⟨h.rws.1, fun i q hq => let ⟨x, h1, h2⟩ := h.rws.2 i q hq; ⟨x, h1, er_keep hp h2 fun _ _ z => nomatch z⟩⟩,
    er_keep hp h.fst (fun _ _ z => nomatch z), er_keep hp h.atr (fun _ _ z => nomatch z), er_keep hp h.mth (fun _ _ z => nomatch z), er_sqt hp h.rul, er_sqt hp h.mis⟩
theorem sc_KindRoot_init : FnScope ["self", "name", "family", "bases", "boundary", "start", "record"] ["self", "name", "family", "bases", "boundary", "start", "record"] (defScope s_KindRoot_init) := ⟨rfl, rfl, rfl, by decide +kernel, rfl, by decide +kernel, by decide +kernel⟩
/-- KindRoot.__init__ -/
structure RootI (P : Program) (w : World) (K : PySem.W.Frag) (mg : Str → Option Value) (base : Heap) (k : Nat) (fd : FuncData) : Prop where
  ok : FnOk P w K mg base CX0 k (He.ma K (C_KindRoot K) "__init__") fd ["self", "name", "family", "bases", "boundary", "start", "record"] (spRoot K)
  b : Binds K fd ["self", "name", "family", "bases", "boundary", "start", "record"] []
theorem in_KindRoot (T : Tx P w K mg) : ∃ fd, RootI P w K mg base 2 fd := by
  obtain ⟨fd, F⟩ := T.f_KindRoot_init
  obtain ⟨fdG, Gline_behind⟩ := fn_line_behind (base := base) T
  have nd := sc_KindRoot_init.nd
  have hcl := T.c_Kind
  refine ⟨fd, ⟨F.ok sc_KindRoot_init (fun vs H Q E h => ?_) (fun cdv A outer s H vs Q E hr h => ⟨_, PSs.nox ((pss_cons (ps_fld (pv 0) (pv 1) rfl)
  (pss_cons (ps_fld (pv 0) (pv 2) rfl)
  (pss_cons (ps_fld (pv 0) (pv 3) rfl)
  (pss_cons (ps_fld (pv 0) (pv 4) rfl)
  (pss_cons (ps_fld (pv 0) (pv 5) rfl)
  (pss_cons (ps_fld (pv 0) (pe_call Gline_behind.ok (hr.mono (by decide)) rfl Gline_behind.m Gline_behind.kp Gline_behind.b .nil pass0 (pa_cons (pv 3) pa_nil)) rfl)
  (pss_one (ps_fld (pv 0) (pv 6) rfl))))))))), ?_⟩), F.bindsN fun _ _ _ _ _ _ us hl => match us, hl with | [_, _, _, _, _, _, _], _ => rfl⟩⟩
  · obtain ⟨p, b, r, nm, st, bd, H0, dx, rows, rfl, _⟩ := h
    rfl
  · obtain ⟨p, b, r, nm, st, bd, H0, dx, rows, rfl, h0, x0, hp, hb, hr, k⟩ := h
    have hrB := er_rec hp hr
    have hbB := ex_t (er_base h0 x0) hb
    have kB : ∀ H2, Ex (er H p) H2 → KindAt K H2 p rows bd → Q .non H2 := fun H2 e2 => k H2 ((er_base h0 x0).trans e2)
    have xB : Ex (er H p) H := er_ex
    have nB : er H p p = none := er_at
    generalize er H p = B at hrB hbB kB xB nB
    refine q_fld (v := nm) (ev_var rfl) (ev_var rfl) hp hcl T.na_Kind_own_name (by decide) fun H1 e1 => ?_
    have x1 := Ex.mut (o := .ins (C_Kind K) dx (putF "own_name" nm [])) (xB.trans e1) nB
    refine q_fld (v := .str "flag") (ev_var rfl) (ev_var rfl) upd_same hcl T.na_Kind_own_family (by show (1 : Nat) < 1000; decide) fun H2 e2 => ?_
    have x2 := Ex.mut (o := .ins (C_Kind K) dx (putF "own_family" (.str "flag") (putF "own_name" nm []))) (x1.trans e2) nB
    refine q_fld (v := .ref b) (ev_var rfl) (ev_var rfl) upd_same hcl T.na_Kind_own_bases (by show (2 : Nat) < 1000; decide) fun H3 e3 => ?_
    have x3 := Ex.mut (o := .ins (C_Kind K) dx (putF "own_bases" (.ref b) (putF "own_family" (.str "flag") (putF "own_name" nm [])))) (x2.trans e3) nB
    refine q_fld (v := .str bd) (ev_var rfl) (ev_var rfl) upd_same hcl T.na_Kind_own_boundary (by show (3 : Nat) < 1000; decide) fun H4 e4 => ?_
    have x4 := Ex.mut (o := .ins (C_Kind K) dx (putF "own_boundary" (.str bd) (putF "own_bases" (.ref b) (putF "own_family" (.str "flag") (putF "own_name" nm []))))) (x3.trans e4) nB
    refine q_fld (v := st) (ev_var rfl) (ev_var rfl) upd_same hcl T.na_Kind_own_start (by show (4 : Nat) < 1000; decide) fun H5 e5 => ?_
    have x5 := Ex.mut (o := .ins (C_Kind K) dx (putF "own_start" st (putF "own_boundary" (.str bd) (putF "own_bases" (.ref b) (putF "own_family" (.str "flag") (putF "own_name" nm [])))))) (x4.trans e5) nB
    refine q_fldG (gv_call (ea_cons (ev_var rfl) ea_nil) (spg fun H6 e6 => ⟨b, rfl, ex_t (x5.trans e6) hbB, rfl⟩)) (ev_var rfl) upd_same hcl T.na_Kind_own_line (by show (5 : Nat) < 1000; decide) fun vl H6 H7 e6 _ e7 => ?_
    have x7 := Ex.mut (o := .ins (C_Kind K) dx (putF "own_line" vl (putF "own_start" st (putF "own_boundary" (.str bd) (putF "own_bases" (.ref b) (putF "own_family" (.str "flag") (putF "own_name" nm []))))))) (x5.trans (e6.trans e7)) nB
    refine s_fld (v := .ref r) (ev_var rfl) (ev_var rfl) upd_same hcl T.na_Kind_own_record (by show (6 : Nat) < 1000; decide) fun H8 e8 => ?_
    exact kB _ (Ex.mut (x7.trans e8) nB) ⟨dx, r, nm, .ref b, st, vl, upd_same, hrB.mono (Ex.mut (x7.trans e8) nB)⟩

end
end EC
end
section
set_option Elab.async false
set_option linter.all false
set_option maxRecDepth 100000
set_option maxHeartbeats 2000000
namespace EC
open PySem PySem.Spec PyProof.Rows L2 Evl
section
variable {P : Program} {w : World} {K : PySem.W.Frag} {mg : Str → Option Value} {base : Heap}
theorem FunS.kbinds {x qual : Str} {st : Stmt} {dvs : List V} {kws : List (Str × V)} {f cc D : Addr} {file : Str} {fd : FuncData} {ps : List Str} (F : FunS K x qual st dvs kws f cc D file fd) (n : Nat) (ks : List Str) (ms : List (Str × V)) (g : {α : Type} → List α → List α → List α → List α → List α) (hd : dvs ≠ []) (hk : kws ≠ []) (hms : ∀ q ∈ ms, q ∈ kws)
    (hrel : ∀ {vs ds mz zs : List V} {us its mv ws : List Value}, Vals vs us → Vals ds its → Vals mz mv → Vals zs ws → Vals (g vs ds mz zs) (g us its mv ws))
    (h : ∀ (T D : Addr) (doc pm : Value) (an : Option Addr) (cda : Addr) (ct : Value) (us its mv ws : List Value), us.length = n → its.length = dvs.length → mv.length = ms.length → ws.length = ks.length →
      ∃ k, bindArgs (PySem.W.fnX x qual (defArgs st) (defBody st) (defScope st) [("__class__", cc)] (.ref T) (.ref D) doc pm an (.ref cda) ct) ⟨us, ks.zip ws⟩ = seqItems? (.ref T) >>= k ∧ KwChain D ((ms.map (·.1)).zip mv) (k (some its.toArray)) (ps.zip (g us its mv ws))) :
    ∃ its mv : List Value, KBn K fd ps n ks (fun us ws => g us its mv ws) (fun vs zs => g vs dvs (ms.map (·.2)) zs) := by
  obtain ⟨oc, od, dV, kV, doc, pm, an, cda, ct, osl, rfl, lk, hcd, hD, hK, _⟩ := F.ex
  rcases hD with ⟨e, _⟩ | ⟨_, T, o, its, m, rfl, lT, oT, rT⟩
  · exact absurd e hd
  · rcases hK with e | ⟨D, rfl, hq⟩
    · exact absurd e hk
    · obtain ⟨mv, hl, rk, hks⟩ := kwd_vals (ms := ms) fun q hm => hq q (hms q hm)
      refine ⟨its, mv, ⟨fun s us ws X l1 l2 => ?_, fun r1 r2 => hrel r1 rT rk r2⟩⟩
      obtain ⟨k, e1, e2⟩ := h T D doc pm an cda ct us its mv ws l1 rT.length.symm hl l2
      refine BindsTo.of_looks fun M => ?_
      rw [e1]
      exact looks_items X lT oT (KwChain.looks X hks e2)
abbrev kindPs : List Str := ["self", "name", "body", "bases", "family", "boundary", "start", "checks"]
/-- the parameters' order -/
def ordK {α : Type} (us its mv ws : List α) : List α := us ++ (mv.take 1 ++ (ws ++ mv.drop 1))
def four : List Str := ["strict", "conform", "eject", "keep"]
def spKindInit (K : PySem.W.Frag) : Sp := fun vs H Q _ => ∃ (p a b c dx : Addr) (z bd : Str) (H0 : Hp) (xs : List V) (rows : List Row), vs = [.ref p, .str z, .ref a, .ref b, .str "flag", .str bd, .non, .ref c] ∧ AtInit H0 H (C_Kind K) p dx ∧ nameOk z = true ∧ SqT K H0 a xs ∧ EntsAt H0 xs rows ∧ Wf rows ∧
  SqT K H0 b [] ∧ SqT K H0 c [] ∧ bd ∈ four ∧ ∀ H2, Ex H0 H2 → KindAt K H2 p rows bd → Q .non H2
theorem ea5G {σ : L2.St} {H : Hp} {t1 t2 t3 t4 t5 t6 : TE} {x1 x2 x3 x4 x5 : V} {P6 : V → Hp → Prop} (h1 : Ev t1 σ H x1) (h2 : Ev t2 σ H x2) (h3 : Ev t3 σ H x3) (h4 : Ev t4 σ H x4) (h5 : Ev t5 σ H x5) (h6 : Gv t6 σ H P6) (Q : List V → Hp → Prop)
    (q : ∀ v H1, Ex H H1 → P6 v H1 → Q [x1, x2, x3, x4, x5, v] H1) : tCons t1 (tCons t2 (tCons t3 (tCons t4 (tCons t5 (tCons t6 tNil))))) σ H Q :=
  h1 H (Ex.refl H) _ fun H1 e1 => h2 H1 e1 _ fun H2 e2 => h3 H2 (e1.trans e2) _ fun H3 e3 => h4 H3 ((e1.trans e2).trans e3) _ fun H4 e4 => h5 H4 (((e1.trans e2).trans e3).trans e4) _ fun H5 e5 =>
    h6 H5 ((((e1.trans e2).trans e3).trans e4).trans e5) _ fun v H6 e6 p6 => q v H6 (((((e1.trans e2).trans e3).trans e4).trans e5).trans e6) p6
structure KindI (P : Program) (w : World) (K : PySem.W.Frag) (mg : Str → Option Value) (base : Heap) (k : Nat) (fd : FuncData) (g : List Value → List Value → List Value) (b1 c1 : Addr) : Prop where
  ok : FnOk P w K mg base CX0 k (He.ma K (He.ga K "Kind") "__init__") fd kindPs (spKindInit K)
  kb : KBn K fd kindPs 3 ["family", "boundary"] g (fun vs zs => ordK vs [] [.ref b1, .non, .ref c1] zs)
  mkC : Mk K (He.ga K "Kind") (He.ma K (He.ga K "Kind") "__init__")
  b : TupK K b1 []
  c : TupK K c1 []
theorem sc_Kind_init : ScopeS ["self", "name", "body", "bases", "family", "boundary", "start", "checks", "border", "chosen", "first"] kindPs (defScope s_Kind_init) := ⟨rfl, rfl, rfl, by decide +kernel, rfl, by decide +kernel, by decide +kernel, by decide +kernel⟩
theorem in_Kind (T : Tx P w K mg) : ∃ fd g b1 c1, KindI P w K mg base 8 fd g b1 c1 := by
  obtain ⟨cc, b0, b1, c1, fd, hb1, hc1, F⟩ := T.f_Kind_init
  obtain ⟨fdR, IR⟩ := in_KindRoot (base := base) T
  obtain ⟨fd1, Gneed_form⟩ := fn_need_form (base := base) T
  obtain ⟨fd2, Gneed_bases⟩ := fn_need_bases (base := base) T
  obtain ⟨fd3, Gneed_options⟩ := fn_need_options (base := base) T
  obtain ⟨fd4, Gneed_checks⟩ := fn_need_checks (base := base) T
  obtain ⟨fd5, Gfamily_of⟩ := fn_family_of (base := base) T
  obtain ⟨fd6, Gboundary_of⟩ := fn_boundary_of (base := base) T
  obtain ⟨fd7, Gall_carried_out⟩ := fn_all_carried_out (base := base) T
  obtain ⟨fd8, Gcheck_all⟩ := fn_check_all (base := base) T
  have nd := sc_Kind_init.nd
  obtain ⟨its, mv, kb⟩ := F.kbinds (ps := kindPs) 3 ["family", "boundary"] [("bases", .ref b1), ("start", .non), ("checks", .ref c1)] ordK (by simp) (by simp) (by simp) (fun r1 _ r3 r4 => r1.append ((r3.take 1).append (r4.append (r3.drop 1)))) fun TT D doc pm an cda ct us its mv ws h1 h2 h3 h4 => by
    match us, its, mv, ws, h1, h2, h3, h4 with
    | [u1, u2, u3], [i1], [m1, m2, m3], [w1, w2], _, _, _, _ => exact ⟨_, rfl, ⟨_, _, _, _, _, _, rfl, rfl, ⟨_, _, _, _, _, _, rfl, rfl, ⟨_, _, _, _, _, _, rfl, rfl, rfl⟩⟩⟩⟩
  refine ⟨fd, _, b1, c1, ⟨fnS_of F sc_Kind_init (fun vs H Q E h => ?_) fun cda A outer s H vs Q E hcode hfd hr h => ⟨_, psA_cons (ps_expr (pe_call Gneed_form.ok (hr.mono (by decide)) rfl Gneed_form.m Gneed_form.kp Gneed_form.b .nil pass0 (pa_cons (pv 1) (pa_cons (pv 2) pa_nil))))
    (psA_cons (ps_expr (pe_call Gneed_bases.ok (hr.mono (by decide)) rfl Gneed_bases.m Gneed_bases.kp Gneed_bases.b .nil pass0 (pa_cons (pv 3) pa_nil)))
    (psA_cons (ps_expr (pe_call Gneed_options.ok (hr.mono (by decide)) rfl Gneed_options.m Gneed_options.kp Gneed_options.b .nil pass0 (pa_cons (pv 4) (pa_cons (pv 5) (pa_cons (pv 6) pa_nil)))))
    (psA_cons (ps_expr (pe_call Gneed_checks.ok (hr.mono (by decide)) rfl Gneed_checks.m Gneed_checks.kp Gneed_checks.b .nil pass0 (pa_cons (pv 7) pa_nil)))
    (psA_cons (ps_par (i := 9) (j := 10) rfl nd rfl rfl (by decide) rfl rfl (pa_cons (pe_call Gfamily_of.ok (hr.mono (by decide)) rfl Gfamily_of.m Gfamily_of.kp Gfamily_of.b .nil pass0 (pa_cons (pv 3) (pa_cons (pv 4) pa_nil))) (pa_cons (pe_ifExp (pt_cmpR op_isN (pv 6) pe_non (nomark _)) pe_int (pv 6)) pa_nil)) (by rfl))
    (psA_cons (ps_set (i := 8) nd rfl (Or.inl rfl) (pe_call Gboundary_of.ok (hr.mono (by decide)) rfl Gboundary_of.m Gboundary_of.kp Gboundary_of.b .nil pass0 (pa_cons (pv 3) (pa_cons (pv 9) (pa_cons (pv 5) pa_nil)))))
    (psA_super (f := He.ma K (C_Kind K) "__init__") (cda := cda) (cc := cc) (C := C_Kind K) (D := C_Kind K) (sf := "self") (fd := fd) ⟨?fn, ?par, hcode, F.cell, T.sup_cls, T.sup_cls, T.sup_sub, T.b_super, T.sup_opq, T.sup_find, T.sup_fi, T.sup_ty, T.sup_top, rfl, rfl, rfl, rfl, rfl, rfl, by decide +kernel⟩ rfl IR.ok (hr.mono (by decide)) IR.b
      (pa_cons (pv 1) (pa_cons (pv 9) (pa_cons (pv 3) (pa_cons (pv 8) (pa_cons (pv 10) (pa_cons (pe_call Gall_carried_out.ok (hr.mono (by decide)) rfl Gall_carried_out.m Gall_carried_out.kp Gall_carried_out.b .nil pass0 (pa_cons (pv 2) (pa_cons (pv 9) (pa_cons (pv 10) (pa_cons (pv 3) pa_nil))))) pa_nil))))))
    (psA_of (pss_one (ps_expr (pe_call Gcheck_all.ok (hr.mono (by decide)) rfl Gcheck_all.m Gcheck_all.kp Gcheck_all.b .nil pass0 (pa_cons (pv 0) (pa_cons (pv 7) pa_nil)))))))))))), ?rd⟩, kb, T.mk_Kind, hb1, hc1⟩⟩
  · obtain ⟨p, a, b, c, dx, z, bd, H0, xs, rows, rfl, _⟩ := h
    rfl
  case fn =>
    obtain ⟨oc, od, dV, kV, doc, pm, an, ct, osl, e, lk⟩ := hfd
    exact ⟨oc, od, osl, lk⟩
  case par =>
    obtain ⟨oc, od, dV, kV, doc, pm, an, ct, osl, e, lk⟩ := hfd
    subst e
    exact ⟨_, rfl, rfl⟩
  case rd =>
    obtain ⟨p, a, b, c, dx, z, bd, H0, xs, rows, rfl, hi, hz, hx, he, wf, hb, hc, hbd, k⟩ := h
    have x0 := hi.ex
    refine q_drop (ev_call (ea_cons (ev_var rfl) (ea_cons (ev_var rfl) ea_nil)) (spv fun H1 e1 => ⟨z, a, xs, rows, rfl, hz, ex_t (x0.trans e1) hx, he.mono (x0.trans e1), wf, rfl⟩)) fun H1 e1 => ?_
    refine q_drop (ev_call (ea_cons (ev_var rfl) ea_nil) (spv fun H2 e2 => ⟨b, rfl, ex_t (x0.trans (e1.trans e2)) hb, rfl⟩)) fun H2 e2 => ?_
    refine q_drop (ev_call (ea_cons (ev_var rfl) (ea_cons (ev_var rfl) (ea_cons (ev_var rfl) ea_nil))) (spv fun H3 e3 => ⟨bd, rfl, hbd, rfl⟩)) fun H3 e3 => ?_
    refine q_drop (ev_call (ea_cons (ev_var rfl) ea_nil) (spv fun H4 e4 => ⟨c, rfl, ex_t (x0.trans ((e1.trans e2).trans (e3.trans e4))) hc, rfl⟩)) fun H4 e4 => ?_
    have y4 := (e1.trans e2).trans (e3.trans e4)
    refine q_par (P1 := IsV (.str "flag")) (P2 := fun _ => IsV (.int 1)) (gv_call (ea_cons (ev_var rfl) (ea_cons (ev_var rfl) ea_nil)) (spg fun H5 e5 => ⟨b, rfl, ex_t (x0.trans (y4.trans e5)) hb, rfl⟩)) (fun v H5 e5 _ => Ev.gv (ev_if (b := true) (et_test (ev_op (ev_var rfl) ev_c (fun H1 _ Q q => ⟨rfl, q H1 (Ex.refl H1)⟩))) (fun _ => ev_c) (fun q => nomatch q))) fun v v2 H5 H6 e5 hv e6 hv2 => ?_
    subst hv
    subst hv2
    have y6 := y4.trans (e5.trans e6)
    refine q_asg (ev_call (ea_cons (ev_var rfl) (ea_cons (ev_var rfl) (ea_cons (ev_var rfl) ea_nil))) (spv fun H7 e7 => ⟨b, bd, rfl, ex_t (x0.trans (y6.trans e7)) hb, rfl⟩)) fun H7 e7 => ?_
    have y7 := y6.trans e7
    refine ⟨p, dx, [], rfl, y7 p _ hi.ins, ea5G (ev_var rfl) (ev_var rfl) (ev_var rfl) (ev_var rfl) (ev_var rfl) (gv_call (ea_cons (ev_var rfl) (ea_cons (ev_var rfl) (ea_cons (ev_var rfl) (ea_cons (ev_var rfl) ea_nil)))) (spg fun H8 e8 => ⟨a, _, _, xs, rows, rfl, ex_t (x0.trans (y7.trans e8)) hx, he.mono (x0.trans (y7.trans e8)), wf, rfl⟩)) _ fun v H8 e8 hv => ?_⟩
    obtain ⟨r, rfl, hr8⟩ := hv
    have y8 := y7.trans e8
    refine ⟨p, b, r, _, _, bd, H0, dx, rows, rfl, hi.1, x0.trans y8, y8 p _ hi.ins, hb, hr8, fun H9 e9 hk => ?_⟩
    exact s_drop (ev_call (ea_cons (ev_var rfl) (ea_cons (ev_var rfl) ea_nil)) (spv fun H10 e10 => ⟨_, c, rfl, ex_t (e9.trans e10) hc, rfl⟩)) fun H10 e10 => k H10 (e9.trans e10) (hk.mono e10)

end
end EC
end
section
set_option Elab.async false
set_option linter.all false
set_option maxRecDepth 100000
set_option maxHeartbeats 2000000
/-! F15: FlagMember.parts, a generator method -/
namespace EC
open PySem PySem.Spec PyProof.Rows L2 Evl GenW
/-- members of the kind with these values -/
def PartsAt (K : PySem.W.Frag) (H : Hp) (κ : Addr) (ys : List V) (bs : List Nat) : Prop := ys.length = bs.length ∧ ∀ (i : Nat) (b : Nat), bs[i]? = some b → ∃ q, ys[i]? = some (.ref q) ∧ Mem K H q κ b
theorem PartsAt.mono {K : PySem.W.Frag} {H H' : Hp} {κ : Addr} {ys : List V} {bs : List Nat} (e : Ex H H') (h : PartsAt K H κ ys bs) : PartsAt K H' κ ys bs := ⟨h.1, fun i b hb => let ⟨q, h1, h2⟩ := h.2 i b hb; ⟨q, h1, h2.mono e⟩⟩
theorem PartsAt.nil (K : PySem.W.Frag) (H : Hp) (κ : Addr) : PartsAt K H κ [] [] := ⟨rfl, fun i r h => by cases h⟩
theorem PartsAt.at {K : PySem.W.Frag} {H : Hp} {κ : Addr} {ys : List V} {bs : List Nat} (h : PartsAt K H κ ys bs) {i : Nat} {x : V} (hx : ys[i]? = some x) : ∃ b q, bs[i]? = some b ∧ x = .ref q ∧ Mem K H q κ b := by
  have hi := (List.getElem?_eq_some_iff.mp hx).1
  rw [h.1] at hi
  obtain ⟨q, h1, h2⟩ := h.2 i _ (List.getElem?_eq_getElem hi)
  rw [hx] at h1
  cases h1
  exact ⟨_, q, List.getElem?_eq_getElem hi, rfl, h2⟩
theorem PartsAt.snoc {K : PySem.W.Frag} {H : Hp} {κ : Addr} {ys : List V} {bs : List Nat} (h : PartsAt K H κ ys bs) {q : Addr} {b : Nat} (hq : Mem K H q κ b) : PartsAt K H κ (ys ++ [.ref q]) (bs ++ [b]) := by
  refine ⟨by rw [List.length_append, List.length_append, h.1]; rfl, fun i c hc => ?_⟩
  rcases Nat.lt_or_ge i bs.length with hlt | hge
  · rw [List.getElem?_append_left hlt] at hc
    obtain ⟨a, h1, h2⟩ := h.2 i c hc
    exact ⟨a, by rw [List.getElem?_append_left (by rw [h.1]; exact hlt)]; exact h1, h2⟩
  · rw [List.getElem?_append_right hge] at hc
    have e0 : i - bs.length = 0 := by
      have := (List.getElem?_eq_some_iff.mp hc).1
      simp at this
      omega
    rw [e0] at hc
    cases hc
    refine ⟨q, ?_, hq⟩
    rw [List.getElem?_append_right (by rw [h.1]; exact hge), h.1, e0]
    rfl
def spParts (K : PySem.W.Frag) : L2.SpG := fun vs H Q _ => ∃ (p κ : Addr) (n : Nat) (rows : List Row) (bd : Str), vs = [.ref p] ∧ Mem K H p κ n ∧ KindAt K H κ rows bd ∧ Wf rows ∧ lt40 n ∧ ∀ ys H', Ex H H' → PartsAt K H' κ ys (takenL n (singlesL rows)) → Q ys H'
section
variable {P : Program} {w : World} {K : PySem.W.Frag} {mg : Str → Option Value} {base : Heap}
theorem taken_le (n : Nat) (xs : List Nat) : (takenL n xs).length ≤ pc n := by
  unfold takenL pc
  refine Nat.le_trans (List.length_filter_le _ _) ?_
  rw [List.length_map]
  exact Nat.le_refl _
theorem q_gsetG {i : Nat} {te : TE} {u : TGn} {D : GEnds} {ys : List V} {σ : L2.St} {H : Hp} {Pv : V → Hp → Prop} (h : Gv te σ H Pv) (k : ∀ v H1, Ex H H1 → Pv v H1 → u D ys (σ.set i (some v)) H1) : tGThen (tPlain (tAsg te (gName i))) u D ys σ H := h H (Ex.refl H) _ k
/-- a for over a new list, in a generator's body -/
theorem q_gforL {tl : TE} {g : TG} {tb u : TGn} {D : GEnds} {ys : List V} {σ : L2.St} {H : Hp} {xs : List V} (h : EvL tl σ H xs) (Pv : Hp → Nat → List V → L2.St → Hp → Prop) (hE : ∀ H1 i ys σ' H', Pv H1 i ys σ' H' → Ex H1 H') (h0 : ∀ H1, Ex H H1 → Pv H1 0 ys σ H1)
    (hs : ∀ H1 i x ys σ' H', Ex H H1 → xs[i]? = some x → Pv H1 i ys σ' H' → g x σ' H' fun σ2 H2 => tb { D with nx := Pv H1 (i + 1), ct := Pv H1 (i + 1), bk := u D } ys σ2 H2) (hd : ∀ H1 ys σ' H', Ex H H1 → Pv H1 xs.length ys σ' H' → u D ys σ' H') : tGThen (tGFor (iList K tl) g tb) u D ys σ H :=
  h H (Ex.refl H) _ fun p H1 hp0 e1 hp => by
    refine ⟨p, rfl, ⟨xs, sq_of hp⟩, fun i m ys' σ' H' => m = xs.length - i ∧ i ≤ xs.length ∧ Pv H1 i ys' σ' H', ⟨_, rfl, Nat.zero_le _, h0 H1 e1⟩, ?_⟩
    rintro i m ys' σ' H' ⟨rfl, hi, q⟩
    have hq : SqL K H' p xs := sq_of (hE H1 i ys' σ' H' q p _ hp)
    by_cases hlt : i < xs.length
    · refine .inr ⟨⟨xs, xs[i], hq, List.getElem?_eq_getElem hlt⟩, Pv H1 (i + 1), fun ys2 σ2 H2 q2 => ⟨xs.length - (i + 1), by omega, rfl, hlt, q2⟩, fun x H2 y => ?_⟩
      obtain ⟨rfl, y⟩ := y
      exact hs H1 i x ys' σ' H2 e1 (y xs hq) q
    · have e : i = xs.length := by omega
      subst e
      exact .inl ⟨⟨xs, hq, Nat.le_refl _⟩, hd H1 ys' σ' H' e1 q⟩
theorem evs_bits {σ : L2.St} {H : Hp} {tl : TE} {xs : List V} (h : Gv tl σ H (fun v H' => ∃ p, v = .ref p ∧ H' p = some (.tup xs))) : ∀ H1, Ex H H1 → ∀ R : It → Hp → Prop, (∀ J H2, Ex H1 H2 → (∃ p, J = Itt K p ∧ H2 p = some (.tup xs)) → R J H2) → iTup K tl σ H1 R := fun H1 e R q =>
  h H1 e _ fun v H2 e2 hv => by
    obtain ⟨p, rfl, hp⟩ := hv
    exact ⟨p, rfl, ⟨xs, st_of hp⟩, q _ H2 e2 ⟨p, rfl, hp⟩⟩
theorem sc_FlagMember_parts : GScope ["self", "singles", "bit"] ["self"] (defScope s_FlagMember_parts) := ⟨rfl, rfl, rfl, by decide +kernel, rfl, by decide +kernel, by decide +kernel⟩
theorem gme_parts (T : Tx P w K mg) (Z : Tp K) : ∃ fd, GFn P w K mg base 6 (He.ma K (C_FlagMember K) "parts") fd ["self"] (spParts K) ∧ Binds K fd ["self"] [] := by
  obtain ⟨fd, F⟩ := Z.f
  obtain ⟨fdGbits_of, Gbits_of⟩ := fn_bits_of (base := base) T
  obtain ⟨fdGsingles_of, Gsingles_of⟩ := fn_singles_of (base := base) T
  obtain ⟨fdI_FlagMember, I_FlagMember⟩ := in_FlagMember (base := base) T
  have nd := sc_FlagMember_parts.nd
  refine ⟨fd, ?_, F.bindsN fun _ _ _ _ _ _ us hl => match us, hl with | [_], _ => rfl⟩
  obtain ⟨oc, od, dV, kV, doc, pm, an, cdv, ct, osl, rfl, lk, hcd, _, _⟩ := F.ex
  refine gfn_of lk hcd sc_FlagMember_parts (fun vs H Q E h => ?_) (fun A outer s H vs Q E pn hr h => ⟨_, gss_cons (gs_ps (ps_set (i := 1) nd rfl (Or.inr rfl) (pe_call Gsingles_of.ok (hr.mono (by decide)) rfl Gsingles_of.m Gsingles_of.kp Gsingles_of.b .nil pass0 (pa_cons (pe_fldK (K := K) (pv 0) rfl) pa_nil))))
    (gss_cons (gs_for owns_gcx rfl (piK_list (K := K) (pe_lc (own := [("bit", 2)]) rfl nd (piK_tup (K := K) (pe_call Gbits_of.ok (hr.mono (by decide)) rfl Gbits_of.m Gbits_of.kp Gbits_of.b .nil pass0 (pa_cons (pe_fldK (K := K) (pv 0) rfl) pa_nil))) (blkOk_by (N := ["self", "singles", "bit"]) (sc := defScope s_FlagMember_parts) (by decide +kernel)) (fun _ _ _ _ _ => (pg_name (i := 2) nd rfl (Or.inl rfl))) (fun _ _ _ _ _ => (pts_one (pt_cmpR (opK_in (K := K)) (pv 2) (pv 1) (by rfl)))) (fun _ _ _ _ _ => (pv 2))))
      (pg_name (i := 2) nd rfl (Or.inl rfl))
      (gss_cons (gs_yield (pe_make I_FlagMember.mkC I_FlagMember.ok (hr.mono (by decide)) rfl T.m_FlagMember I_FlagMember.b .nil pass0 (pa_cons (pe_fldK (K := K) (pv 0) rfl) (pa_cons (pv 2) pa_nil)))) gss_nil)) gss_nil), ?_⟩)
  · obtain ⟨p, κ, n, rows, bd, rfl, _⟩ := h
    rfl
  · obtain ⟨p, κ, n, rows, bd, rfl, hp, hk, wf, hn, k⟩ := h
    refine q_gsetG (gv_call (ea_cons (f_kind T (ev_var rfl) hp) ea_nil) (spg fun H1 e1 => ⟨κ, rows, bd, rfl, hk.mono e1, wf, rfl⟩)) fun v H1 e1 hv => ?_
    obtain ⟨a, rfl, ha⟩ := hv
    have eb : bitsV n = ((pcs n).map fun i => 2 ^ i).map vN := by rw [List.map_map]; rfl
    have hlen : (bitsV n).length ≤ 40000 := by
      have := pc_le n
      unfold pc at this
      unfold bitsV
      rw [List.length_map]
      omega
    have hln : (bitsV n).length = ((pcs n).map fun i => 2 ^ i).length := by rw [eb, List.length_map]
    refine q_gforL (xs := (takenL n (singlesL rows)).map vN) (el_is (el_lcS (bitsV n).length (fun i => decide ((((pcs n).map fun i => 2 ^ i).getD i 0) ∈ singlesL rows)) (fun i => vN (((pcs n).map fun i => 2 ^ i).getD i 0)) hlen (evs_bits (gv_call (ea_cons (f_val T (ev_var rfl) (hp.mono e1)) ea_nil) (spg fun _ _ => ⟨n, rfl, hn, rfl⟩))) ?_) (by rw [hln]; exact given_filter (fun b => decide (b ∈ singlesL rows)) vN 0 _))
      (fun H2 i ys σ' H' => Ex H2 H' ∧ PartsAt K H' κ ys ((takenL n (singlesL rows)).take i) ∧ ∃ o, σ' = [some (.ref p), some (.ref a), o])
      (fun H2 i ys σ' H' q => q.1) (fun H2 e2 => ⟨Ex.refl _, PartsAt.nil _ _ _, none, rfl⟩) (fun H2 i x ys σ' H' e2 hx q => ?_) fun H2 ys σ' H' e2 q => ?_
    · rintro J H2 e2 ⟨p3, rfl, hp3⟩
      refine ⟨_, _, walk_tup, fun H3 e3 => st_of (e3 p3 _ hp3), ?_⟩
      rintro i x H3 H4 hi e3 ⟨rfl, hx⟩
      rw [eb, List.getElem?_map] at hx
      obtain ⟨b, hb, rfl⟩ := Option.map_eq_some_iff.mp hx
      have ed : ((pcs n).map fun i => 2 ^ i).getD i 0 = b := by
        rw [List.getD_eq_getElem?_getD, hb]
        rfl
      refine ⟨Ex.refl _, _, fun Q q => g_name q, rfl, ?_, fun _ => ?_⟩
      · rw [ed]
        exact et_test (ev_op (ev_var rfl) (ev_var rfl) (rv_is (rv_isL (sq_of ((e2.trans e3) a _ ha)) rfl (flat_vN _)) (by rw [in_vN])))
      · rw [ed]
        exact ev_var rfl
    · obtain ⟨q1, q2, o, rfl⟩ := q
      rw [List.getElem?_map] at hx
      obtain ⟨b, hb, rfl⟩ := Option.map_eq_some_iff.mp hx
      have e4 := (e1.trans e2).trans q1
      have hlt := taken_le n (singlesL rows)
      have hpc := pc_le n
      have hyl : ys.length ≤ 64 := by
        rw [q2.1, List.length_take]
        omega
      refine g_name ⟨sz_lt (by omega), ?_⟩
      refine gv_make (K := K) (ea_cons (f_kind T (ev_var rfl) (hp.mono e4)) (ea_cons (ev_var rfl) ea_nil)) (hk.mono e4) wf _ (Ex.refl _) _ fun v H5 e5 hv => ?_
      obtain ⟨r, rfl, hr5⟩ := hv
      refine ⟨q1.trans e5, ?_, _, rfl⟩
      rw [List.take_add_one, hb]
      exact (q2.mono e5).snoc hr5
    · obtain ⟨q1, q2, _⟩ := q
      rw [List.length_map, List.take_length] at q2
      exact k ys H' ((e1.trans e2).trans q1) q2
end
end EC
end
section
set_option Elab.async false
set_option linter.all false
set_option maxRecDepth 100000
set_option maxHeartbeats 2000000
namespace EC
open PySem PySem.Spec PyProof.Rows L2 Evl
section
variable {P : Program} {w : World} {K : PySem.W.Frag} {mg : Str → Option Value} {base : Heap}
/-- the same end by more than one way -/
theorem q_via {t u : TS} {D : Ends} {σ : L2.St} {H : Hp} (M : L2.St → Hp → Prop) (k : ∀ σ' H', M σ' H' → u D σ' H') (h : (∀ σ' H', M σ' H' → u D σ' H') → tSeq t u D σ H) : tSeq t u D σ H := h k
def spCell (K : PySem.W.Frag) : Sp := fun vs H Q _ => ∃ (c s : Addr) (ns : List Int) (k : Nat) (S : Hp), vs = [.ref c, .ref s] ∧ S s = none ∧ Ex S H ∧ SqL K S c (ns.map V.int) ∧ H s = some (.lst [vN k]) ∧ k ≤ 1000 ∧ ns.length ≤ 100 ∧
  ∀ (v : Nat) H', Ex S H' → H' s = some (.lst [vN (k + 1)]) → v < 2 ^ 31 → Q (vN v) H'
theorem mod_nn (a : Int) {b : Int} (h : 0 < b) : 0 ≤ a % b ∧ a % b < b := ⟨Int.emod_nonneg a (by omega), Int.emod_lt_of_pos a h⟩
theorem mul_w {i j : Int} (h1 : i.natAbs < 2 ^ 64) (h2 : j.natAbs < 2 ^ 64) : CMulW i j := wide_mul h1 h2 (by decide) (by decide) (by decide)
theorem sc__law_cell : FnScope ["_law_cells", "_law_spot", "_law_k", "_law_base", "_law_at", "_law_turn", "_law_rest", "_law_j"] ["_law_cells", "_law_spot"] (defScope s__law_cell) := ⟨rfl, rfl, rfl, by decide +kernel, rfl, by decide +kernel, by decide +kernel⟩
theorem fn__law_cell (T : Tx P w K mg) : ∃ fd, Fn P w K mg base 1 "_law_cell" ["_law_cells", "_law_spot"] (spCell K) fd := by
  obtain ⟨fd, F⟩ := T.f__law_cell
  have nd := sc__law_cell.nd
  refine ⟨fd, ⟨F.ok sc__law_cell (fun vs H Q E h => ?_) (fun cdv A outer s H vs Q E hr h => ⟨_, PSs.nox ((pss_cons (ps_set (i := 2) nd rfl (Or.inl rfl) (pe_ix (ixK_list (K := K)) (pv 1) pe_int (fun _ _ => rfl)))
  (pss_cons (ps_asg (pe_op op_add (pv 2) pe_int) (pg_sub (pv 1) pe_int set_list))
  (pss_cons (ps_set (i := 3) nd rfl (Or.inl rfl) (pe_op op_add (pe_op op_mulW (pe_op op_mulW pe_int (pv 2)) (pv 2)) (pe_op op_mulW pe_int (pv 2))))
  (pss_cons (ps_if (pt_cmpR op_gt (pe_callB (callK_len (K := K)) (by rfl) T.b_len PySem.boot_len (pa_cons (pv 0) pa_nil)) pe_int (nomark _)) (pss_cons (ps_par (i := 4) (j := 5) rfl nd rfl rfl (by decide) rfl rfl (pa_cons (pe_op op_mod (pv 2) (pe_callB (callK_len (K := K)) (by rfl) T.b_len PySem.boot_len (pa_cons (pv 0) pa_nil))) (pa_cons (pe_op op_fdivW (pv 2) (pe_callB (callK_len (K := K)) (by rfl) T.b_len PySem.boot_len (pa_cons (pv 0) pa_nil))) pa_nil)) (by rfl))
  (pss_cons (ps_if (PW.pt (pw_and (pt_cmpR op_ge (pe_ix (ixK_list (K := K)) (pv 0) (pv 4) (fun _ _ => rfl)) (pe_op op_pow pe_int pe_int) (nomark _)) (pw_and1 (pt_cmpR op_lt (pv 5) pe_int (nomark _))))) (pss_cons (ps_set (i := 6) nd rfl (Or.inl rfl) (pe_ix (ixK_list (K := K)) (pv 0) (pv 4) (fun _ _ => rfl)))
  (pss_cons (ps_for PassesOwn.never rfl (pi_range1 (by rfl) T.b_range (pa_cons (pv 5) pa_nil)) (pg_name (i := 7) nd rfl (Or.inl rfl)) (pss_one (ps_set (i := 6) nd rfl (Or.inl rfl) (pe_op op_fdivW (pv 6) pe_int))))
  (pss_one (ps_if (pt_cmpR op_gt (pv 6) pe_int (nomark _)) (pss_one (ps_ret (pe_op op_mod (pv 6) pe_int))) pss_nil)))) pss_nil)
  (pss_one (ps_set (i := 3) nd rfl (Or.inl rfl) (pe_op op_add (pv 3) (pe_op op_mulW (pe_op op_mod (pe_ix (ixK_list (K := K)) (pv 0) (pv 4) (fun _ _ => rfl)) pe_int) (pe_op op_add pe_int (pv 5)))))))) pss_nil)
  (pss_one (ps_ret (pe_op op_fdivW (pe_op op_mod (pe_op op_pow (pe_op op_mod (pv 3) pe_int) pe_int) pe_int) pe_int)))))))), ?_⟩), F.bindsN fun _ _ _ _ _ _ us hl => match us, hl with | [_, _], _ => rfl, F.kp, T.m__law_cell⟩⟩
  · obtain ⟨c, s, ns, k0, S, rfl, hS, eS, hc, hs, hk, hl, k⟩ := h
    rfl
  · obtain ⟨c, s, ns, k0, S, rfl, hS, eS, hc, hs, hk, hl, k⟩ := h
    refine q_asg (ev_op (ev_var rfl) ev_c (rv_ixL (sq_of hs) (at_nat (j := 0) rfl))) fun H1 e1 => ?_
    refine q_setL (e1 s _ hs) (ev_op (ev_var rfl) ev_c rv_I0) (ev_var rfl) ev_c (j := 0) (Nat.zero_lt_one) fun H1' e1' => ?_
    generalize hH2 : upd H1' s (.lst ([vN k0].set 0 (.int ((k0 : Int) + 1)))) = H2
    have eS2 : Ex S H2 := hH2 ▸ Ex.mut ((eS.trans e1).trans e1') hS
    have hs2 : H2 s = some (.lst [vN (k0 + 1)]) := by
      rw [← hH2, upd_same]
      rfl
    have fin : ∀ (x : Int) H', Ex H2 H' → 0 ≤ x → x < 2147483648 → Q (.int x) H' := fun x H' e h0 h1 => by
      obtain ⟨v, rfl⟩ := Int.eq_ofNat_of_zero_le h0
      exact k v H' (eS2.trans e) (e _ _ hs2) (by omega)
    have hc2 := ex_l eS2 hc
    have b0 : (0 : Int) ≤ 31 * (k0 : Int) * (k0 : Int) + 7919 * (k0 : Int) := Int.add_nonneg (Int.mul_nonneg (by omega) (by omega)) (by omega)
    refine q_asg (ev_op (ev_op (ev_op ev_c (ev_var rfl) (rv_I (mul_w (by omega) (by omega)))) (ev_var rfl) (rv_I (mul_w (by omega) (by omega)))) (ev_op ev_c (ev_var rfl) (rv_I (mul_w (by omega) (by omega)))) rv_I0) fun H3 e3 => ?_
    refine q_via (fun σ' H' => Ex H2 H' ∧ ∃ b : Int, 0 ≤ b ∧ σ'[3]? = some (some (.int b))) ?_ fun fi => ?_
    · rintro σ' H' ⟨e, b, hb, h3⟩
      have m1 := mod_nn b (b := 2147483647) (by decide)
      have m2 := mod_nn ((b % 2147483647) ^ (5 : Int).toNat) (b := 2147483647) (by decide)
      refine s_ret (ev_op (ev_op (ev_op (ev_op (ev_var h3) ev_c (rv_I (by decide))) ev_c (rv_I ⟨by decide, by decide, by omega⟩)) ev_c (rv_I (by decide))) ev_c (rv_I ⟨by decide, by decide +kernel⟩)) fun H4 e4 => fin _ H4 (e.trans e4) ?_ ?_
      · exact Int.ediv_nonneg m2.1 (by decide)
      · omega
    · refine q_when (et_test (ev_op (ev_len (ev_var rfl) (ex_l e3 hc2)) ev_c rv_I0)) (fun hb H4 e4 => ?_) fun hb H4 e4 => fi _ H4 ⟨e3.trans e4, _, b0, rfl⟩
      have hc4 := ex_l (e3.trans e4) hc2
      have hpos : 0 < ns.length := by
        have := of_decide_eq_true hb
        rw [List.length_map] at this
        omega
      have hlm : (ns.map V.int).length = ns.length := List.length_map _
      obtain ⟨d, hd⟩ : ∃ d, d = k0 / ns.length := ⟨_, rfl⟩
      have hdv : d ≤ k0 := by
        rw [hd]
        exact Nat.div_le_self _ _
      refine q_par (P1 := IsV (vN (k0 % ns.length))) (P2 := fun _ => IsV (vN d)) (Ev.gv (ev_is (ev_op (ev_var rfl) (ev_len (ev_var rfl) hc4) (rv_I (by rw [hlm]; omega))) (by rw [hlm]; rfl))) (fun v H5 e5 hv => Ev.gv (ev_is (ev_op (ev_var rfl) (ev_len (ev_var rfl) (ex_l e5 hc4)) (rv_I (by rw [hlm]; exact wide_div (b := 64) (by omega) (by omega) (by decide) (by decide)))) (by rw [hlm, hd]; rfl))) fun v u H5 H6 e5 hv e6 hu => ?_
      obtain rfl := hv
      obtain rfl := hu
      have hat : k0 % ns.length < ns.length := Nat.mod_lt _ hpos
      obtain ⟨z, hz⟩ : ∃ z, ns[k0 % ns.length]? = some z := ⟨_, List.getElem?_eq_getElem hat⟩
      have hat2 : (ns.map V.int)[k0 % ns.length]? = some (.int z) := by rw [List.getElem?_map, hz]; rfl
      have e26 : Ex H2 H6 := ((e3.trans e4).trans e5).trans e6
      refine q_via (fun σ' H' => Ex H2 H' ∧ ∃ o1 o2, σ' = [some (.ref c), some (.ref s), some (vN k0), some (.int (31 * (k0 : Int) * (k0 : Int) + 7919 * (k0 : Int))), some (vN (k0 % ns.length)), some (vN d), o1, o2]) ?_ fun fj => ?_
      · rintro σ' H' ⟨e, o1, o2, rfl⟩
        have m1 := mod_nn z (b := 2147483629) (by decide)
        refine s_asg (ev_op (ev_var rfl) (ev_op (ev_op (ev_op (ev_var rfl) (ev_var rfl) (rv_ixL (ex_l e hc2) (at_nat hat2))) ev_c (rv_I (by decide))) (ev_op ev_c (ev_var rfl) rv_I0) (rv_I (mul_w (by omega) (by omega)))) rv_I0) fun H7 e7 => fi _ H7 ⟨e.trans e7, _, Int.add_nonneg b0 (Int.mul_nonneg m1.1 (by omega)), rfl⟩
      · refine q_when (et_and (et_test (ev_op (ev_op (ev_var rfl) (ev_var rfl) (rv_ixL (ex_l e26 hc2) (at_nat hat2))) (ev_op ev_c ev_c (rv_I ⟨by decide, by decide, by decide⟩)) rv_I0)) fun _ => et_test (ev_op (ev_var rfl) ev_c rv_I0)) (fun hb2 H7 e7 => ?_) fun _ H7 e7 => fj _ H7 ⟨e26.trans e7, _, _, rfl⟩
        have hz0 : 0 ≤ z := by
          have := of_decide_eq_true (Bool.and_eq_true_iff.mp hb2).1
          have h2 : (10 : Int) ^ (18 : Int).toNat = 1000000000000000000 := by decide
          rw [h2] at this
          omega
        refine q_asg (ev_op (ev_var rfl) (ev_var rfl) (rv_ixL (ex_l (e26.trans e7) hc2) (at_nat hat2))) fun H8 e8 => ?_
        refine q_forR1 (n := ((d : Nat) : Int)) (ea_cons (ev_var rfl) ea_nil) (by omega) (fun i σ' H' => Ex H2 H' ∧ ∃ r : Int, 0 ≤ r ∧ ∃ o2, σ' = [some (.ref c), some (.ref s), some (vN k0), some (.int (31 * (k0 : Int) * (k0 : Int) + 7919 * (k0 : Int))), some (vN (k0 % ns.length)), some (vN d), some (.int r), o2]) (fun H9 e9 => ⟨((e26.trans e7).trans e8).trans e9, z, hz0, _, rfl⟩) (fun i σ' H' hi q => ?_) fun σ' H' q => ?_
        · obtain ⟨q, r, hr, o2, rfl⟩ := q
          exact s_asg (ev_op (ev_var rfl) ev_c (rv_I ⟨by decide, by decide +kernel⟩)) fun H10 e10 => ⟨q.trans e10, _, Int.ediv_nonneg hr (by decide), _, rfl⟩
        · obtain ⟨q, r, hr, o2, rfl⟩ := q
          have m3 := mod_nn r (b := 306783379) (by decide)
          exact s_when (et_test (ev_op (ev_var rfl) ev_c rv_I0)) (fun _ H10 e10 => s_ret (ev_op (ev_var rfl) ev_c (rv_I (by decide))) fun H11 e11 => fin _ H11 ((q.trans e10).trans e11) m3.1 (by omega)) fun _ H10 e10 => fj _ H10 ⟨q.trans e10, _, _, rfl⟩

end
end EC
end
section
set_option Elab.async false
set_option linter.all false
set_option maxRecDepth 100000
set_option maxHeartbeats 2000000
namespace EC
open PySem PySem.Spec PyProof.Rows L2 Evl
section
variable {P : Program} {w : World} {K : PySem.W.Frag} {mg : Str → Option Value} {base : Heap}
/-! plain facts of or-ing -/
theorem orL_mem {l : List Nat} {x : Nat} (h : x ∈ l) : Sub x (orL l) := by
  have g : ∀ (l : List Nat) (a : Nat), Sub a (l.foldl (· ||| ·) a) ∧ ∀ x ∈ l, Sub x (l.foldl (· ||| ·) a) := by
    intro l
    induction l with
    | nil => exact fun a => ⟨Sub.refl _, fun x h => by cases h⟩
    | cons b l ih =>
      intro a
      have := ih (a ||| b)
      refine ⟨(sub_left a b).trans this.1, fun x hx => ?_⟩
      rcases List.mem_cons.mp hx with rfl | hx
      · exact (sub_right a x).trans this.1
      · exact this.2 x hx
  exact (g l 0).2 x h
theorem orL_sub {l : List Nat} {m : Nat} (h : ∀ x ∈ l, Sub x m) : Sub (orL l) m := by
  have g : ∀ (l : List Nat) (a : Nat), Sub a m → (∀ x ∈ l, Sub x m) → Sub (l.foldl (· ||| ·) a) m := by
    intro l
    induction l with
    | nil => exact fun a ha _ => ha
    | cons b l ih => exact fun a ha hl => ih _ (sub_or ha (hl b List.mem_cons_self)) fun x hx => hl x (List.mem_cons_of_mem _ hx)
  exact g l 0 (fun i hi => by rw [Nat.zero_testBit] at hi; cases hi) h
theorem orL_lt {l : List Nat} (h : ∀ x ∈ l, lt40 x) : lt40 (orL l) := by
  have g : ∀ (l : List Nat) (a : Nat), lt40 a → (∀ x ∈ l, lt40 x) → lt40 (l.foldl (· ||| ·) a) := by
    intro l
    induction l with
    | nil => exact fun a ha _ => ha
    | cons b l ih => exact fun a ha hl => ih _ (lt_or ha (hl b List.mem_cons_self)) fun x hx => hl x (List.mem_cons_of_mem _ hx)
  exact g l 0 (by show 0 < 2 ^ 40; decide) h
theorem first_in {rows : List Row} {r : Row} (h : r ∈ rows) : r.2 ∈ firstVals rows := by
  cases hf : rows.find? fun q => q.2 == r.2 with
  | none =>
    have := List.find?_eq_none.mp hf r h
    simp at this
  | some q =>
    have h1 := List.mem_of_find?_eq_some hf
    have h2 : q.2 = r.2 := beq_iff_eq.mp (List.find?_some (p := fun q : Row => q.2 == r.2) hf)
    unfold firstVals
    refine List.mem_map.mpr ⟨q, List.mem_filter.mpr ⟨h1, decide_eq_true ?_⟩, h2⟩
    unfold firstName
    rw [h2, hf]
    rfl
def maskL (rows : List Row) : Nat := orL (rows.map (·.2))
theorem mask_sub (rows : List Row) : Sub (maskL rows) (orL (firstVals rows)) := orL_sub fun x h => by
  obtain ⟨r, hr, rfl⟩ := List.mem_map.mp h
  exact orL_mem (first_in hr)
theorem reads_of {rows : List Row} {bd : Str} {n : Nat} (h : Sub n (maskL rows)) : Reads rows bd n := Or.inl ((or_iff _ _).mpr (h.trans (mask_sub rows)))
def spMask (K : PySem.W.Frag) : Sp := mkSp fun vs H P => ∃ (a : Addr) (xs : List V) (rows : List Row), vs = [.ref a] ∧ SqL K H a xs ∧ RowsAt H xs rows ∧ P = IsV (vN (maskL rows))
theorem sc__law_mask : FnScope ["_law_rows_here", "_law_total", "_law_word", "_law_given"] ["_law_rows_here"] (defScope s__law_mask) := ⟨rfl, rfl, rfl, by decide +kernel, rfl, by decide +kernel, by decide +kernel⟩
theorem fn__law_mask (T : Tx P w K mg) : ∃ fd, Fn P w K mg base 1 "_law_mask" ["_law_rows_here"] (spMask K) fd := by
  obtain ⟨fd, F⟩ := T.f__law_mask
  have nd := sc__law_mask.nd
  refine ⟨fd, ⟨F.ok sc__law_mask (fun vs H Q E h => ?_) (fun cdv A outer s H vs Q E hr h => ⟨_, PSs.nox ((pss_cons (ps_set (i := 1) nd rfl (Or.inl rfl) pe_int)
  (pss_cons (ps_for PassesOwn.never rfl (piK_list (K := K) (pv 0)) (pgK_tup (K := K) (n := 2) rfl (pgs_cons (pg_name (i := 2) nd rfl (Or.inl rfl)) (pgs_cons (pg_name (i := 3) nd rfl (Or.inl rfl)) pgs_nil))) (pss_one (ps_set (i := 1) nd rfl (Or.inl rfl) (pe_op op_or (pv 1) (pv 3)))))
  (pss_one (ps_ret (pv 1)))))), ?_⟩), F.bindsN fun _ _ _ _ _ _ us hl => match us, hl with | [_], _ => rfl, F.kp, T.m__law_mask⟩⟩
  · obtain ⟨_, h, _⟩ := h
    obtain ⟨a, xs, rows, rfl, ha, hr, rfl⟩ := h
    rfl
  · obtain ⟨Pz, h, k⟩ := h
    obtain ⟨a, xs, rows, rfl, ha, hr, rfl⟩ := h
    refine q_asg ev_c fun H1 e1 => ?_
    refine q_forL (ev_var rfl) (ex_l e1 ha) (fun i σ' H' => Ex H H' ∧ ∃ o1 o2, σ' = [some (.ref a), some (vN (orL ((rows.map (·.2)).take i))), o1, o2]) (fun H2 e2 => ⟨e1.trans e2, _, _, rfl⟩) (fun i σ' H' _ q => ex_l q.1 ha) (fun i x σ' H' hx q => ?_) fun σ' H' q => ?_
    · obtain ⟨e, o1, o2, rfl⟩ := q
      obtain ⟨r, b, h1, rfl, h2⟩ := (hr.mono e).at hx
      refine g_two (st_of h2) ?_
      refine s_asg (ev_is (ev_op (ev_var rfl) (ev_var rfl) rv_I0) (congrArg V.int (bO _ _))) fun H2 e2 => ⟨e.trans e2, some (.str r.1), some (vN r.2), ?_⟩
      have h3 : (rows.map (·.2))[i]? = some r.2 := by rw [List.getElem?_map, h1]; rfl
      rw [orL_take _ i r.2 h3]
      rfl
    · obtain ⟨e, o1, o2, rfl⟩ := q
      have e0 : (rows.map (·.2)).take xs.length = rows.map (·.2) := by rw [hr.1, List.take_of_length_le (by rw [List.length_map]; exact Nat.le_refl _)]
      rw [e0]
      exact s_ret (ev_var rfl) fun H2 e2 => k _ H2 (e.trans e2) rfl
def spLawFlag (K : PySem.W.Frag) : Sp := mkSp fun vs H P => ∃ (a : Addr) (xs : List V) (rows : List Row) (bd : Str), vs = [.ref a, .str bd] ∧ SqL K H a xs ∧ RowsAt H xs rows ∧ Wf rows ∧ bd ∈ four ∧ P = fun v H' => ∃ κ, v = .ref κ ∧ KindAt K H' κ rows bd
theorem gv_tupL {σ : L2.St} {H : Hp} {ta : TE} {R : List V → Hp → Prop} (hR : ∀ xs H1 H2, Ex H1 H2 → R xs H1 → R xs H2) (h : Gv ta σ H (fun v H' => ∃ p xs, v = .ref p ∧ H' p = some (.lst xs) ∧ R xs H')) : Gv (tCB (rTupO K) (tCons ta tNil)) σ H (fun v H' => ∃ p xs, v = .ref p ∧ H' p = some (.tup xs) ∧ R xs H') := fun H1 e Q q =>
  h H1 e _ fun v H2 e2 hv => by
    obtain ⟨p, xs, rfl, hp, hr⟩ := hv
    exact ⟨p, xs, rfl, Or.inl ⟨sq_of hp, fun l hl => q _ _ (e2.trans (Ex.new hl)) ⟨l, xs, rfl, upd_same, hR xs _ _ (Ex.new hl) hr⟩⟩⟩
theorem gv_newTup {σ : L2.St} {H : Hp} {ta : TA} {vs : List V} (h : EvA ta σ H vs) (hl : vs.length ≤ 100000) : Gv (tTup ta) σ H (fun v H' => ∃ p, v = .ref p ∧ H' p = some (.tup vs)) := EvU.gv (eu_tup h hl) fun p H1 hp => ⟨p, rfl, hp⟩
theorem sc__law_flag : FnScope ["_law_rows_here", "_law_border", "_law_entries", "_law_word", "_law_given"] ["_law_rows_here", "_law_border"] (defScope s__law_flag) := ⟨rfl, rfl, rfl, by decide +kernel, rfl, by decide +kernel, by decide +kernel⟩
theorem fn__law_flag (T : Tx P w K mg) : ∃ fd, Fn P w K mg base 10 "_law_flag" ["_law_rows_here", "_law_border"] (spLawFlag K) fd := by
  obtain ⟨fd, F⟩ := T.f__law_flag
  obtain ⟨fdK, gK, b1, c1, IK⟩ := in_Kind (base := base) T
  have nd := sc__law_flag.nd
  refine ⟨fd, ⟨F.ok sc__law_flag (fun vs H Q E h => ?_) (fun cdv A outer s H vs Q E hr h => ⟨_, PSs.nox ((pss_cons (ps_set (i := 2) nd rfl (Or.inl rfl) (pe_callTy (callK_tuple (K := K)) (by rfl) T.b_tuple bo_tuple (pa_cons (pe_lc (own := [("_law_word", 3), ("_law_given", 4)]) rfl nd (piK_list (K := K) (pv 0)) (blkOk_by (N := ["_law_rows_here", "_law_border", "_law_entries", "_law_word", "_law_given"]) (sc := defScope s__law_flag) (by decide +kernel)) (fun _ _ _ _ _ => (pgK_tup (K := K) (n := 2) rfl (pgs_cons (pg_name (i := 3) nd rfl (Or.inl rfl)) (pgs_cons (pg_name (i := 4) nd rfl (Or.inl rfl)) pgs_nil)))) (fun _ _ _ _ _ => pts_nil) (fun _ _ _ _ _ => (pe_tup (pa_cons pe_str (pa_cons (pv 3) (pa_cons (pv 4) pa_nil)))))) pa_nil)))
  (pss_one (ps_ret (pe_makeK (n := 2) IK.mkC IK.ok (hr.mono (by decide)) rfl T.m_Kind IK.kb pass0 (pa_cons pe_str (pa_cons (pv 2) pa_nil)) (pk_cons pe_str (pk_cons (pv 1) pk_nil))))))), ?_⟩), F.bindsN fun _ _ _ _ _ _ us hl => match us, hl with | [_, _], _ => rfl, F.kp, T.m__law_flag⟩⟩
  · obtain ⟨_, h, _⟩ := h
    obtain ⟨a, xs, rows, bd, rfl, ha, hr, wf, hb, rfl⟩ := h
    rfl
  · obtain ⟨Pz, h, k⟩ := h
    obtain ⟨a, xs, rows, bd, rfl, ha, hr, wf, hb, rfl⟩ := h
    have hsm := wf.small
    refine q_asgG (gv_tupL (R := fun ys H' => EntsAt H' ys rows) (fun ys _ _ e h => h.mono e) (Gv.imp (gl_lcW walk_list (fun i v H' => ∃ q, v = .ref q ∧ H' q = some (.tup [.str "set", .str (rows.getD i default).1, vN (rows.getD i default).2])) ?_ (evi_list (ev_var rfl) ha) (by rw [hr.1]; omega) (fun H1 e1 => ex_l e1 ha) ?_) ?_)) fun v H1 e1 hv => ?_
    · rintro i x H1 H2 ⟨q, rfl, hq⟩ hk
      exact ⟨q, rfl, hk q _ hq fun xs z => by cases z⟩
    · rintro i x H1 H2 hi e1 ⟨rfl, hx⟩
      obtain ⟨r, b, h1, rfl, h2⟩ := (hr.mono e1).at hx
      rw [getD_of h1]
      exact ⟨Ex.refl _, _, fun Q q => g_two (st_of h2) q, rfl, gv_newTup (ea_cons ev_c (ea_cons (ev_var rfl) (ea_cons (ev_var rfl) ea_nil))) (by show 3 ≤ 100000; decide)⟩
    · rintro v H1 e1 ⟨p, ys, rfl, _, hp, hl, hi⟩
      refine ⟨p, ys, rfl, hp, by rw [hl, hr.1], fun i r hr1 => ?_⟩
      have hlt : i < ys.length := by
        rw [hl, hr.1]
        exact (List.getElem?_eq_some_iff.mp hr1).1
      obtain ⟨q, h1, h2⟩ := hi i _ (List.getElem?_eq_getElem hlt)
      rw [getD_of hr1] at h2
      exact ⟨q, by rw [List.getElem?_eq_getElem hlt, h1], h2⟩
    · obtain ⟨t, ys, rfl, ht, hy⟩ := hv
      refine s_retG (P := fun v H' => ∃ κ, v = .ref κ ∧ KindAt K H' κ rows bd) (fun H2 e2 Q2 q2 => ?_) fun v H2 e2 hv => k v H2 (e1.trans e2) hv
      refine ea_cons ev_c (ea_cons (ev_var rfl) ea_nil) H2 e2 _ fun H3 e3 => ?_
      refine ea_cons ev_c (ea_cons (ev_var rfl) ea_nil) H3 (e2.trans e3) _ fun H4 e4 => ⟨rfl, rfl, fun x dx hx hdx hne => ?_⟩
      exact ⟨x, t, b1, c1, dx, "Perm", bd, H4, ys, rows, rfl, ⟨hx, hdx, hne, rfl⟩, by decide +kernel, st_of (((e2.trans e3).trans e4) t _ ht), hy.mono ((e2.trans e3).trans e4), wf, IK.b.at, IK.c.at, hb, fun H5 e5 hk => ⟨rfl, q2 _ H5 ((e3.trans e4).trans e5) ⟨x, rfl, hk⟩⟩⟩

end
end EC
end
section
set_option Elab.async false
set_option linter.all false
set_option maxRecDepth 100000
set_option maxHeartbeats 2000000
namespace EC
open PySem PySem.Spec PyProof.Rows L2 Evl
section
variable {P : Program} {w : World} {K : PySem.W.Frag} {mg : Str → Option Value} {base : Heap}
def del (a : Addr) (H : Hp) : Hp := fun x => if x = a then none else H x
theorem del_at (a : Addr) (H : Hp) : del a H a = none := by
  unfold del
  rw [if_pos rfl]
theorem del_ne {a b : Addr} (H : Hp) (h : b ≠ a) : del a H b = H b := by
  unfold del
  rw [if_neg h]
theorem del_ex (a : Addr) (H : Hp) : Ex (del a H) H := fun x o h => by
  by_cases e : x = a
  · subst e
    rw [del_at] at h
    cases h
  · rw [del_ne H e] at h
    exact h
theorem ex_del {S H : Hp} {a : Addr} (e : Ex S H) (h : S a = none) : Ex S (del a H) := fun x o hx => by
  by_cases q : x = a
  · subst q
    rw [h] at hx
    cases hx
  · rw [del_ne H q]
    exact e x o hx
theorem ne_of {H : Hp} {a b : Addr} {xs ys : List V} (h : H a = some (.tup xs)) (g : H b = some (.lst ys)) : a ≠ b := fun e => by
  subst e
  rw [h] at g
  cases g
theorem ne_none {H : Hp} {a b : Addr} {o : HO} (h : H a = some o) (g : H b = none) : a ≠ b := fun e => by
  subst e
  rw [h] at g
  cases g
theorem RowsAt.del {H : Hp} {xs : List V} {rows : List Row} {a : Addr} {ys : List V} (h : RowsAt H xs rows) (g : H a = some (.lst ys)) : RowsAt (EC.del a H) xs rows := ⟨h.1, fun i r hr => by
  obtain ⟨b, h1, h2⟩ := h.2 i r hr
  exact ⟨b, h1, by rw [del_ne H (ne_of h2 g)]; exact h2⟩⟩
section
variable {σ : L2.St} {H : Hp} {ta : TA} {sp : Sp} {E : XK} {vs : List V} {D : Ends} {tz : TS}
theorem q_asgCall {i : Nat} (G : V → Hp → Prop) (h : EvA ta σ H vs) (hs : ∀ H1, Ex H H1 → ∀ Q : VK, (∀ v H2, G v H2 → Q v H2) → sp vs H1 Q E) (k : ∀ v H2, G v H2 → tz D (σ.set i (some v)) H2) : tSeq (tAsg (tCall sp [] E ta) (gName i)) tz D σ H :=
  h H (Ex.refl H) _ fun H1 e1 => by
    show sp (vs ++ []) H1 _ E
    rw [List.append_nil]
    exact hs H1 e1 _ k
theorem q_parCall {i j : Nat} {tb : TE} (G : V → Hp → Prop) (P2 : V → Hp → V → Hp → Prop) (h : EvA ta σ H vs) (hs : ∀ H1, Ex H H1 → ∀ Q : VK, (∀ v H2, G v H2 → Q v H2) → sp vs H1 Q E) (hb : ∀ v H2, G v H2 → Gv tb σ H2 (P2 v H2))
    (k : ∀ v u H2 H3, G v H2 → Ex H2 H3 → P2 v H2 u H3 → tz D ((σ.set i (some v)).set j (some u)) H3) : tSeq (tPar i j (tCons (tCall sp [] E ta) (tCons tb tNil))) tz D σ H :=
  h H (Ex.refl H) _ fun H1 e1 => by
    show sp (vs ++ []) H1 _ E
    rw [List.append_nil]
    exact hs H1 e1 _ fun v H2 g => hb v H2 g H2 (Ex.refl H2) _ fun u H3 e3 p => ⟨v, u, rfl, k v u H2 H3 g e3 p⟩
theorem gv_newL {te : TE} {xs : List V} (h : EvL te σ H xs) : Gv te σ H (fun v H' => ∃ p, v = .ref p ∧ H p = none ∧ H' p = some (.lst xs)) := fun H1 e Q q => h H1 e Q fun p H2 hn e2 h2 => q _ H2 e2 ⟨p, rfl, fresh_back e hn, h2⟩
theorem el_cat {tl tb : TE} {l : Addr} {xs ys : List V} (ha : Ev tl σ H (.ref l)) (hl : H l = some (.lst xs)) (hb : EvL tb σ H ys) (hz : xs.length + ys.length ≤ 100000) : EvL (tOp rCat tl tb) σ H (xs ++ ys) := fun H1 e Q q =>
  ha H1 e _ fun H2 e2 => hb H2 (e.trans e2) _ fun p H3 _ e3 hp => ⟨l, p, xs, ys, rfl, rfl, (e2.trans e3) l _ (e l _ hl), hp, sz_of hz, fun r hr => q r _ (fresh_back (e2.trans e3) hr) ((e2.trans e3).trans (Ex.new hr)) upd_same⟩
end
theorem dp_rows {H : Hp} {xs : List V} {rows : List Row} (h : RowsAt H xs rows) : DpAll K H xs (rows.map fun r => PyData.tuple [.str r.1, .int (r.2 : Int)]) := by
  have g : ∀ (rows : List Row) (xs : List V), xs.length = rows.length → (∀ (i : Nat) (r : Row), rows[i]? = some r → ∃ a, xs[i]? = some (.ref a) ∧ H a = some (.tup [.str r.1, vN r.2])) → DpAll K H xs (rows.map fun r => PyData.tuple [.str r.1, .int (r.2 : Int)]) := by
    intro rows
    induction rows with
    | nil =>
      intro xs hl _
      cases xs with
      | nil => exact .nil
      | cons x xs => cases hl
    | cons r rows ih =>
      intro xs hl hi
      cases xs with
      | nil => cases hl
      | cons x xs =>
        obtain ⟨a, h1, h2⟩ := hi 0 r rfl
        cases h1
        exact .cons (.tup (st_of h2) (.cons (.str _) (.cons (.int _) .nil))) (ih xs (Nat.succ.inj hl) fun i r hr => hi (i + 1) r hr)
  exact g rows xs h.1 h.2
theorem ok_rows {rows : List Row} (h : ∀ r ∈ rows, PyData.strOk r.1 = true) : ∀ d ∈ rows.map (fun r : Row => PyData.tuple [.str r.1, .int (r.2 : Int)]), okD d := fun d hd => by
  obtain ⟨r, hr, rfl⟩ := List.mem_map.mp hd
  exact ok_row _ (h r hr)
/-- a member's name by its place -/
def nmK (k : Nat) : Str := (⟨#[("ABCDEFGHI" : Str).cps.toList.getD k 0]⟩ : Str) ++ ((toString (k : Int) : String) : Str)
theorem nm_all : ∀ n, n ≤ 9 → ((List.range n).map nmK).Nodup ∧ ∀ z ∈ (List.range n).map nmK, nameOk z = true ∧ PyData.strOk z = true := by decide +kernel
/-- a number of the script -/
structure Spot (K : PySem.W.Frag) (S H : Hp) (c s : Addr) (ns : List Int) (k : Nat) : Prop where
  none_ : S s = none
  ex : Ex S H
  cells : SqL K S c (ns.map V.int)
  at_ : H s = some (.lst [vN k])
  le : ns.length ≤ 100
theorem Spot.mono {S H H' : Hp} {c s : Addr} {ns : List Int} {k : Nat} (h : Spot K S H c s ns k) (e : Ex H H') : Spot K S H' c s ns k := ⟨h.none_, h.ex.trans e, h.cells, e _ _ h.at_, h.le⟩
theorem Spot.full {S H : Hp} {c s : Addr} {ns : List Int} {k : Nat} (h : Spot K S H c s ns k) : Spot K (del s H) H c s ns k := ⟨del_at _ _, del_ex _ _, ex_l (ex_del h.ex h.none_) h.cells, h.at_, h.le⟩
theorem Spot.sub {S H : Hp} {c s : Addr} {ns : List Int} {k : Nat} (h : Spot K S H c s ns k) : Ex S (del s H) := ex_del h.ex h.none_
theorem cell_at {S H : Hp} {c s : Addr} {ns : List Int} {k : Nat} {E : XK} (h : Spot K S H c s ns k) (hk : k ≤ 1000) (Q : VK) (q : ∀ v H2, (∃ m : Nat, v = vN m ∧ m < 2 ^ 31 ∧ Spot K S H2 c s ns (k + 1)) → Q v H2) : spCell K [.ref c, .ref s] H Q E :=
  ⟨c, s, ns, k, S, rfl, h.none_, h.ex, h.cells, h.at_, hk, h.le, fun v H' e hs hv => q _ _ ⟨v, rfl, hv, h.none_, e, h.cells, hs, h.le⟩⟩
def spNumber (K : PySem.W.Frag) : Sp := fun vs H Q _ => ∃ (c s a : Addr) (ns : List Int) (k : Nat) (S : Hp) (xs : List V) (rows : List Row) (bd : Str), vs = [.ref c, .ref s, .ref a, .str bd] ∧ Spot K S H c s ns k ∧ k ≤ 1000 ∧ S a = some (.lst xs) ∧ RowsAt S xs rows ∧ rows ≠ [] ∧ Wf rows ∧
  ∀ (v : Nat) H', Spot K S H' c s ns (k + 1) → lt40 v → Reads rows bd v → Q (vN v) H'
theorem sc__law_number : FnScope ["_law_cells", "_law_spot", "_law_rows_here", "_law_border", "_law_n", "_law_far"] ["_law_cells", "_law_spot", "_law_rows_here", "_law_border"] (defScope s__law_number) := ⟨rfl, rfl, rfl, by decide +kernel, rfl, by decide +kernel, by decide +kernel⟩
theorem fn__law_number (T : Tx P w K mg) : ∃ fd, Fn P w K mg base 2 "_law_number" ["_law_cells", "_law_spot", "_law_rows_here", "_law_border"] (spNumber K) fd := by
  obtain ⟨fd, F⟩ := T.f__law_number
  obtain ⟨fdG_law_cell, G_law_cell⟩ := fn__law_cell (base := base) T
  obtain ⟨fdG_law_mask, G_law_mask⟩ := fn__law_mask (base := base) T
  have nd := sc__law_number.nd
  refine ⟨fd, ⟨F.ok sc__law_number (fun vs H Q E h => ?_) (fun cdv A outer s H vs Q E hr h => ⟨_, PSs.nox ((pss_cons (ps_set (i := 4) nd rfl (Or.inl rfl) (pe_call G_law_cell.ok (hr.mono (by decide)) rfl G_law_cell.m G_law_cell.kp G_law_cell.b .nil pass0 (pa_cons (pv 0) (pa_cons (pv 1) pa_nil))))
  (pss_cons (ps_set (i := 5) nd rfl (Or.inl rfl) (pe_op op_mod (pe_op op_add (pe_op op_mulW (pv 4) pe_int) (pe_op op_fdivW (pv 4) pe_int)) (pe_op op_shl pe_int pe_int)))
  (pss_cons (ps_if (pt_cmpR op_eq (pe_op op_mod (pv 4) pe_int) pe_int (nomark _)) (pss_one (ps_ret (pe_ix (ixK_tup (K := K)) (pe_ix (ixK_list (K := K)) (pv 2) (pe_op op_mod (pe_op op_fdivW (pv 4) pe_int) (pe_callB (callK_len (K := K)) (by rfl) T.b_len PySem.boot_len (pa_cons (pv 2) pa_nil))) (fun _ _ => rfl)) pe_int (fun _ _ => rfl)))) pss_nil)
  (pss_one (ps_ret (pe_ifExp (PW.pt (pw_and (pt_cmpR op_eq (pv 3) pe_str (nomark _)) (pw_and1 (pt_cmpR op_eq (pe_op op_mod (pv 4) pe_int) pe_int (nomark _))))) (pv 5) (pe_op op_and (pv 5) (pe_call G_law_mask.ok (hr.mono (by decide)) rfl G_law_mask.m G_law_mask.kp G_law_mask.b .nil pass0 (pa_cons (pv 2) pa_nil)))))))))), ?_⟩), F.bindsN fun _ _ _ _ _ _ us hl => match us, hl with | [_, _, _, _], _ => rfl, F.kp, T.m__law_number⟩⟩
  · obtain ⟨c, s, a, ns, k0, S, xs, rows, bd, rfl, sp, hk, ha, hr, hne, wf, k⟩ := h
    rfl
  · obtain ⟨c, s, a, ns, k0, S, xs, rows, bd, rfl, sp, hk, ha, hr, hne, wf, k⟩ := h
    refine q_asgCall _ (ea_cons (ev_var rfl) (ea_cons (ev_var rfl) ea_nil)) (fun H1 e1 Q2 q2 => cell_at (sp.mono e1) hk Q2 q2) fun v H2 hv => ?_
    obtain ⟨n, rfl, hn, sp2⟩ := hv
    have m1 := mod_nn ((n : Int) * 1048573 + (n : Int) / 7) (b := 1 * 2 ^ (40 : Int).toNat) (by decide)
    have e40 : (1 * 2 ^ (40 : Int).toNat : Int) = 1099511627776 := by decide
    obtain ⟨f, hf⟩ := Int.eq_ofNat_of_zero_le m1.1
    have hf40 : lt40 f := by
      have h2 := m1.2
      rw [hf, e40] at h2
      show f < 2 ^ 40
      omega
    refine q_asg (v := vN f) (ev_is (ev_op (ev_op (ev_op (ev_var rfl) ev_c (rv_I (mul_w (by omega) (by omega)))) (ev_op (ev_var rfl) ev_c (rv_I ⟨by decide, by decide +kernel⟩)) rv_I0) (ev_op ev_c ev_c (rv_I ⟨by decide, by decide, by decide⟩)) (rv_I (by decide))) (congrArg V.int hf)) fun H3 e3 => ?_
    have ha3 : H3 a = some (.lst xs) := e3 a _ (sp2.ex a _ ha)
    have hr3 := (hr.mono sp2.ex).mono e3
    have hpos : 0 < xs.length := by
      rw [hr.1]
      exact List.length_pos_iff.mpr hne
    refine q_when (et_test (ev_op (ev_op (ev_var rfl) ev_c (rv_I (by decide))) ev_c (rv_eq rfl))) (fun _ H4 e4 => ?_) fun _ H4 e4 => ?_
    · have hj : n / 4 % xs.length < xs.length := Nat.mod_lt _ hpos
      obtain ⟨r, b, h1, h2, h3⟩ := hr3.at (List.getElem?_eq_getElem hj)
      have hx : xs[n / 4 % xs.length]? = some (.ref b) := by rw [List.getElem?_eq_getElem hj, h2]
      refine s_ret (ev_op (ev_op (ev_var rfl) (ev_is (ev_op (ev_op (ev_var rfl) ev_c (rv_I ⟨by decide, by decide +kernel⟩)) (ev_len (ev_var rfl) (sq_of (e4 a _ ha3))) (rv_I (by omega))) (show V.int ((n : Int) / 4 % (xs.length : Int)) = vN (n / 4 % xs.length) from rfl)) (rv_ixL (sq_of (e4 a _ ha3)) (at_nat hx))) ev_c (rv_ixT (st_of (e4 b _ h3)) (at_nat (j := 1) rfl))) fun H5 e5 => k r.2 H5 (((sp2.mono e3).mono e4).mono e5) (wf.vals r (List.mem_of_getElem? h1)) (reads_of (orL_mem (List.mem_map.mpr ⟨r, List.mem_of_getElem? h1, rfl⟩)))
    · refine s_retG (P := fun v _ => ∃ m : Nat, v = vN m ∧ lt40 m ∧ Reads rows bd m) (gv_if (et_and (et_test (ev_op (ev_var rfl) ev_c (rv_eq rfl))) fun _ => et_test (ev_op (ev_op (ev_var rfl) ev_c (rv_I (by decide))) ev_c (rv_eq rfl))) (fun hb => ?_) fun _ => ?_) fun v H5 e5 hv => ?_
      · have hbd : bd = "keep" := V.str.inj (of_decide_eq_true (Bool.and_eq_true_iff.mp hb).1)
        exact Gv.imp (Ev.gv (ev_var rfl)) fun v _ _ hv => ⟨f, hv, hf40, Or.inr hbd⟩
      · refine Gv.imp (Ev.gv (ev_is (ev_op (ev_var rfl) (ev_call (ea_cons (ev_var rfl) ea_nil) (spv fun H5 e5 => ⟨a, xs, rows, rfl, sq_of (e5 a _ (e4 a _ ha3)), (hr3.mono e4).mono e5, rfl⟩)) rv_I0) (congrArg V.int (bA f (maskL rows))))) fun v _ _ hv => ⟨_, hv, lt_and hf40, reads_of ?_⟩
        intro i hi
        rw [Nat.testBit_and, Bool.and_eq_true] at hi
        exact hi.2
      · obtain ⟨m, rfl, h1, h2⟩ := hv
        exact k m H5 (((sp2.mono e3).mono e4).mono e5) h1 h2
def Known (K : PySem.W.Frag) (S H : Hp) (l : Addr) (xs : List V) (rows : List Row) : Prop := Ex S H ∧ S l = some (.lst xs) ∧ RowsAt S xs rows
def spRows (K : PySem.W.Frag) : Sp := fun vs H Q _ => ∃ (c s : Addr) (ns : List Int) (k : Nat) (S : Hp), vs = [.ref c, .ref s] ∧ Spot K S H c s ns k ∧ k ≤ 900 ∧
  ∀ (l : Addr) (xs : List V) (rows : List Row) (k' : Nat) (S' H' : Hp), Ex S S' → Spot K S' H' c s ns k' → k' ≤ k + 10 → S' l = some (.lst xs) → RowsAt S' xs rows → Wf rows → rows ≠ [] → Q (.ref l) H'
theorem shl_nat (j : Nat) : (1 : Int) * 2 ^ ((j : Int)).toNat = ((2 ^ j : Nat) : Int) := by
  rw [Int.toNat_natCast, Int.one_mul]
  exact (Int.natCast_pow 2 j).symm
theorem lt_pow {j : Nat} (h : j < 40) : lt40 (2 ^ j) := Nat.pow_lt_pow_right (by decide) h
/-- what stands before turn i -/
structure RowsInv (K : PySem.W.Frag) (S : Hp) (c s l : Addr) (ns : List Int) (k i : Nat) (H' : Hp) (xs : List V) (rows : List Row) : Prop where
  sp : Spot K S H' c s ns k
  lst : H' l = some (.lst xs)
  sl : S l = none
  ne : l ≠ s
  rws : RowsAt H' xs rows
  len : rows.length = i
  vals : ∀ r ∈ rows, lt40 r.2
  nms : rows.map (·.1) = (List.range i).map nmK
theorem rows_wf {rows : List Row} {i : Nat} (hi : i ≤ 9) (hl : rows.length = i) (hv : ∀ r ∈ rows, lt40 r.2) (hn : rows.map (·.1) = (List.range i).map nmK) : Wf rows := by
  obtain ⟨h1, h2⟩ := nm_all i hi
  exact ⟨by omega, hv, by rw [hn]; exact h1, fun r hr => h2 _ (by rw [← hn]; exact List.mem_map.mpr ⟨r, hr, rfl⟩)⟩
theorem at_name {i : Nat} (hi : i < 9) : ∃ c, atI ("ABCDEFGHI" : Str).cps.toList ((i : Nat) : Int) = some c ∧ (⟨#[c]⟩ : Str) = ⟨#[("ABCDEFGHI" : Str).cps.toList.getD i 0]⟩ := by
  have hl : i < ("ABCDEFGHI" : Str).cps.toList.length := Nat.lt_of_lt_of_eq hi (by decide +kernel)
  exact ⟨_, at_nat (List.getElem?_eq_getElem hl), by rw [List.getD_eq_getElem?_getD, List.getElem?_eq_getElem hl]; rfl⟩
theorem nm_len : ∀ i, i < 9 → (⟨#[("ABCDEFGHI" : Str).cps.toList.getD i 0]⟩ : Str).length + ((toString (i : Int) : String) : Str).length ≤ 100 := by decide +kernel
theorem rc_str {H : Hp} {i : Int} (hz : i.natAbs.log2 < 1920) : RC (fun xs H Q => ∃ i, xs = [V.int i] ∧ i.natAbs.log2 < 1920 ∧ Q (.str (toString i)) H) [.int i] H (.str (toString i)) := fun H1 e Q q => ⟨i, rfl, hz, q H1 (Ex.refl _)⟩
theorem rv_cat {H : Hp} {a b : Str} (h : a.length + b.length ≤ 100) : RV (fun x y H Q => ∃ i j, x = V.str i ∧ y = V.str j ∧ i.length + j.length ≤ sizeLine ∧ Q (.str (i ++ j)) H) (.str a) (.str b) H (.str (a ++ b)) := fun H1 e Q q => ⟨a, b, rfl, rfl, sz_of (by omega), q H1 (Ex.refl _)⟩
theorem ex_del_upd (a : Addr) (H : Hp) (o : HO) : Ex (del a H) (upd H a o) := fun x u h => by
  by_cases e : x = a
  · subst e
    rw [del_at] at h
    cases h
  · rw [del_ne H e] at h
    rw [upd_ne e]
    exact h
theorem sc__law_rows : FnScope ["_law_cells", "_law_spot", "_law_k", "_law_n", "_law_found", "_law_m", "_law_old", "_law_some"] ["_law_cells", "_law_spot"] (defScope s__law_rows) := ⟨rfl, rfl, rfl, by decide +kernel, rfl, by decide +kernel, by decide +kernel⟩
theorem fn__law_rows (T : Tx P w K mg) : ∃ fd, Fn P w K mg base 2 "_law_rows" ["_law_cells", "_law_spot"] (spRows K) fd := by
  obtain ⟨fd, F⟩ := T.f__law_rows
  obtain ⟨fdG_law_cell, G_law_cell⟩ := fn__law_cell (base := base) T
  have nd := sc__law_rows.nd
  refine ⟨fd, ⟨F.ok sc__law_rows (fun vs H Q E h => ?_) (fun cdv A outer s H vs Q E hr h => ⟨_, PSs.nox ((pss_cons (ps_par (i := 3) (j := 4) rfl nd rfl rfl (by decide) rfl rfl (pa_cons (pe_call G_law_cell.ok (hr.mono (by decide)) rfl G_law_cell.m G_law_cell.kp G_law_cell.b .nil pass0 (pa_cons (pv 0) (pa_cons (pv 1) pa_nil))) (pa_cons (pe_lst pa_nil) pa_nil)) (by rfl))
  (pss_cons (ps_for PassesOwn.never rfl (pi_range1 (by rfl) T.b_range (pa_cons (pe_op op_add pe_int (pe_op op_mod (pv 3) pe_int)) pa_nil)) (pg_name (i := 2) nd rfl (Or.inl rfl)) (pss_cons (ps_set (i := 5) nd rfl (Or.inl rfl) (pe_call G_law_cell.ok (hr.mono (by decide)) rfl G_law_cell.m G_law_cell.kp G_law_cell.b .nil pass0 (pa_cons (pv 0) (pa_cons (pv 1) pa_nil))))
  (pss_cons (ps_set (i := 6) nd rfl (Or.inl rfl) (pe_ifExp (pt_cmpR (opK_neD (K := K) hr.units) (pv 4) (pe_lst pa_nil) (nomark _)) (pe_ix (ixK_tup (K := K)) (pe_ix (ixK_list (K := K)) (pv 4) (pe_op op_mod (pe_op op_fdivW (pv 5) pe_int) (pe_callB (callK_len (K := K)) (by rfl) T.b_len PySem.boot_len (pa_cons (pv 4) pa_nil))) (fun _ _ => rfl)) pe_int (fun _ _ => rfl)) pe_int))
  (pss_cons (ps_set (i := 7) nd rfl (Or.inl rfl) (pe_lst (pa_cons (pe_op op_shl pe_int (pe_op op_mod (pe_op op_fdivW (pv 5) pe_int) pe_int)) (pa_cons (pe_op op_shl pe_int (pe_op op_mod (pe_op op_fdivW (pv 5) pe_int) pe_int)) (pa_cons (pe_op op_mod (pe_op op_fdivW (pv 5) pe_int) pe_int) pa_nil)))))
  (pss_cons (ps_set (i := 7) nd rfl (Or.inl rfl) (pe_op op_cat (pv 7) (pe_lst (pa_cons (pe_op op_mulW (pe_op op_mod (pe_op op_fdivW (pv 5) pe_int) pe_int) pe_int) (pa_cons pe_int (pa_cons (pv 6) pa_nil))))))
  (pss_one (ps_expr (pe_bm PySem.F.plainAttrs_list PySem.F.slot_list_append PySem.F.type_list_append mt_append (pv 4) (pa_cons (pe_tup (pa_cons (pe_op op_add_str (pe_ix ix_str pe_str (pv 2) (fun _ _ => rfl)) (pe_callTy call_str_int (by rfl) T.b_str bo_str (pa_cons (pv 2) pa_nil))) (pa_cons (pe_ix (ixK_list (K := K)) (pv 7) (pe_op op_mod (pv 5) pe_int) (fun _ _ => rfl)) pa_nil))) pa_nil)))))))))
  (pss_one (ps_ret (pv 4)))))), ?_⟩), F.bindsN fun _ _ _ _ _ _ us hl => match us, hl with | [_, _], _ => rfl, F.kp, T.m__law_rows⟩⟩
  · obtain ⟨c, s, ns, k0, S, rfl, sp, hk, k⟩ := h
    rfl
  · obtain ⟨c, s, ns, k0, S, rfl, sp, hk, k⟩ := h
    refine q_parCall _ (fun _ H2 u H3 => ∃ p, u = .ref p ∧ H2 p = none ∧ H3 p = some (.lst [])) (ea_cons (ev_var rfl) (ea_cons (ev_var rfl) ea_nil)) (fun H1 e1 Q2 q2 => cell_at (sp.mono e1) (by omega) Q2 q2) (fun v H2 hv => gv_newL el_nil) fun v u H2 H3 hv e3 hu => ?_
    obtain ⟨n, rfl, hn, sp2⟩ := hv
    obtain ⟨l, rfl, hl2, hl3⟩ := hu
    have hN : 1 + n % 9 ≤ 9 := by omega
    have hSl : S l = none := fresh_back sp2.ex hl2
    have hne : l ≠ s := (ne_none sp2.at_ hl2).symm
    refine q_forR1 (n := ((1 + n % 9 : Nat) : Int)) (ea_cons (ev_is (ev_op ev_c (ev_op (ev_var rfl) ev_c (rv_I (by decide))) rv_I0) (show V.int (1 + (n : Int) % 9) = V.int ((1 + n % 9 : Nat) : Int) from rfl)) ea_nil) (by omega)
      (fun i σ' H' => i ≤ 9 → ∃ xs rows o2 o5 o6 o7, RowsInv K S c s l ns (k0 + 1 + i) i H' xs rows ∧ σ' = [some (.ref c), some (.ref s), o2, some (vN n), some (.ref l), o5, o6, o7])
      (fun H4 e4 _ => ⟨[], [], _, _, _, _, ⟨(sp2.mono e3).mono e4, e4 l _ hl3, hSl, hne, RowsAt.nil _, rfl, fun r h => (by cases h), rfl⟩, rfl⟩) (fun i σ' H' hi q => ?_) fun σ' H' q => ?_
    · have hi9 : i < 9 := by omega
      obtain ⟨xs, rows, o2, o5, o6, o7, inv, rfl⟩ := q (by omega)
      refine q_asgCall (fun v H2 => ∃ m : Nat, v = vN m ∧ m < 2 ^ 31 ∧ Spot K (del s H') H2 c s ns (k0 + 1 + i + 1)) (ea_cons (ev_var rfl) (ea_cons (ev_var rfl) ea_nil)) (fun H1 e1 Q2 q2 => cell_at (inv.sp.full.mono e1) (by omega) Q2 q2) fun v H4 hv => ?_
      obtain ⟨m, rfl, hm, sp4⟩ := hv
      have hl4 : H4 l = some (.lst xs) := sp4.ex l _ (by rw [del_ne _ inv.ne]; exact inv.lst)
      have hr4 : RowsAt H4 xs rows := (inv.rws.del inv.sp.at_).mono sp4.ex
      have hxl : xs.length = i := by rw [inv.rws.1, inv.len]
      have wf := rows_wf (by omega) inv.len inv.vals inv.nms
      refine q_asgG (P := fun v _ => ∃ o : Nat, v = vN o ∧ lt40 o) (gv_if (et_test (ev_neNil (ev_var rfl) (sq_of hl4) (fun H5 e5 => dp_rows (hr4.mono e5)) (ok_rows fun r hr => (wf.nm r hr).2))) (fun hb => ?_) fun _ => Gv.imp (Ev.gv ev_c) fun v _ _ hv => ⟨1, hv, by show 1 < 2 ^ 40; decide⟩) fun v H5 e5 hv => ?_
      · have hpos : 0 < xs.length := by
          rw [isEmpty_map] at hb
          rw [inv.rws.1]
          cases rows with
          | nil => cases hb
          | cons r rows => exact Nat.succ_pos _
        have hj : m / 6 % xs.length < xs.length := Nat.mod_lt _ hpos
        obtain ⟨r, b, h1, h2, h3⟩ := hr4.at (List.getElem?_eq_getElem hj)
        have hx : xs[m / 6 % xs.length]? = some (.ref b) := by rw [List.getElem?_eq_getElem hj, h2]
        exact Gv.imp (Ev.gv (ev_op (ev_op (ev_var rfl) (ev_is (ev_op (ev_op (ev_var rfl) ev_c (rv_I ⟨by decide, by decide +kernel⟩)) (ev_len (ev_var rfl) (sq_of hl4)) (rv_I (by omega))) (show V.int ((m : Int) / 6 % (xs.length : Int)) = vN (m / 6 % xs.length) from rfl)) (rv_ixL (sq_of hl4) (at_nat hx))) ev_c (rv_ixT (st_of h3) (at_nat (j := 1) rfl)))) fun v _ _ hv => ⟨r.2, hv, inv.vals r (List.mem_of_getElem? h1)⟩
      obtain ⟨o, rfl, ho⟩ := hv
      refine q_asgL (el_lst (ea_cons (ev_is (ev_op ev_c (ev_is (ev_op (ev_op (ev_var rfl) ev_c (rv_I ⟨by decide, by decide +kernel⟩)) ev_c (rv_I (by decide))) (show V.int ((m : Int) / 6 % 8) = vN (m / 6 % 8) from rfl)) (rv_I ⟨by omega, by omega, by decide⟩)) (congrArg V.int (shl_nat (m / 6 % 8))))
        (ea_cons (ev_is (ev_op ev_c (ev_is (ev_op (ev_op (ev_var rfl) ev_c (rv_I ⟨by decide, by decide +kernel⟩)) ev_c (rv_I (by decide))) (show V.int ((m : Int) / 6 % 40) = vN (m / 6 % 40) from rfl)) (rv_I ⟨by omega, by omega, by decide⟩)) (congrArg V.int (shl_nat (m / 6 % 40))))
        (ea_cons (ev_is (ev_op (ev_op (ev_var rfl) ev_c (rv_I ⟨by decide, by decide +kernel⟩)) ev_c (rv_I (by decide))) (show V.int ((m : Int) / 6 % 256) = vN (m / 6 % 256) from rfl)) ea_nil))) (by show 3 ≤ 100000; decide)) fun p1 H6 hp1 e6 h6 => ?_
      refine q_asgL (el_cat (ev_var rfl) h6 (el_lst (ea_cons (ev_is (ev_op (ev_is (ev_op (ev_op (ev_var rfl) ev_c (rv_I ⟨by decide, by decide +kernel⟩)) ev_c (rv_I (by decide))) (show V.int ((m : Int) / 6 % 1024) = vN (m / 6 % 1024) from rfl)) ev_c (rv_I (mul_w (by omega) (by decide)))) (show V.int (((m / 6 % 1024 : Nat) : Int) * 1025) = vN (m / 6 % 1024 * 1025) from rfl)) (ea_cons ev_c (ea_cons (ev_var rfl) ea_nil))) (by show 3 ≤ 100000; decide)) (by show 3 + 3 ≤ 100000; decide)) fun p2 H7 hp2 e7 h7 => ?_
      have e47 := (e5.trans e6).trans e7
      obtain ⟨g, hg, hg40⟩ : ∃ g : Nat, [2 ^ (m / 6 % 8), 2 ^ (m / 6 % 40), m / 6 % 256, m / 6 % 1024 * 1025, 0, o][m % 6]? = some g ∧ lt40 g := by
        have hlt : m % 6 < [2 ^ (m / 6 % 8), 2 ^ (m / 6 % 40), m / 6 % 256, m / 6 % 1024 * 1025, 0, o].length := Nat.mod_lt _ (by decide)
        refine ⟨_, List.getElem?_eq_getElem hlt, ?_⟩
        have hm2 := List.getElem_mem hlt
        generalize [2 ^ (m / 6 % 8), 2 ^ (m / 6 % 40), m / 6 % 256, m / 6 % 1024 * 1025, 0, o][m % 6] = y at hm2
        simp only [List.mem_cons, List.not_mem_nil, or_false] at hm2
        rcases hm2 with rfl | rfl | rfl | rfl | rfl | rfl
        · exact lt_pow (by omega)
        · exact lt_pow (by omega)
        · show _ < 2 ^ 40
          omega
        · show _ < 2 ^ 40
          omega
        · show _ < 2 ^ 40
          omega
        · exact ho
      have hg7 : ([2 ^ (m / 6 % 8), 2 ^ (m / 6 % 40), m / 6 % 256, m / 6 % 1024 * 1025, 0, o].map vN)[m % 6]? = some (vN g) := by rw [List.getElem?_map, hg]; rfl
      obtain ⟨ch, hc1, hc2⟩ := at_name hi9
      have hl7 := e47 l _ hl4
      refine s_appU (xs := xs) (ys := [.str (nmK i), vN g]) hl7 (ev_var rfl) (eu_tup (ea_cons (ev_is (ev_op (ev_op ev_c (ev_var rfl) (rv_ixS (by decide +kernel) hc1)) (ev_cb1 (ev_var rfl) (rc_str (i := (i : Int)) (Nat.lt_of_le_of_lt (Nat.log2_le_self _) (by omega)))) (rv_cat (by rw [hc2]; exact nm_len i hi9))) (by rw [hc2]; rfl))
        (ea_cons (ev_op (ev_var rfl) (ev_is (ev_op (ev_var rfl) ev_c (rv_I (by decide))) (show V.int ((m : Int) % 6) = vN (m % 6) from rfl)) (rv_ixL (sq_of h7) (at_nat hg7))) ea_nil)) (by show 2 ≤ 100000; decide)) (by omega) fun p3 H8 hp3 e8 h8 => fun _ => ⟨xs ++ [.ref p3], rows ++ [(nmK i, g)], _, _, _, _, ?_, rfl⟩
      have e48 := e47.trans e8
      have hl8 := e8 l _ hl7
      exact ⟨⟨inv.sp.none_, Ex.mut ((inv.sp.sub.trans sp4.ex).trans e48) inv.sl, inv.sp.cells, by rw [upd_ne inv.ne.symm]; exact e48 s _ sp4.at_, inv.sp.le⟩, upd_same, inv.sl, inv.ne,
        (((hr4.mono e48).del hl8).mono (ex_del_upd _ _ _)).snoc (by rw [upd_ne (ne_of h8 hl8)]; exact h8), by rw [List.length_append, inv.len]; rfl, fun r hr => by
          rcases List.mem_append.mp hr with h | h
          · exact inv.vals r h
          · rw [List.mem_singleton.mp h]
            exact hg40, by rw [List.map_append, inv.nms, List.range_succ, List.map_append]; rfl⟩
    · obtain ⟨xs, rows, o2, o5, o6, o7, inv, rfl⟩ := q (by rw [Int.toNat_natCast]; exact hN)
      rw [Int.toNat_natCast] at inv
      refine s_ret (ev_var rfl) fun H5 e5 => ?_
      have f := (inv.sp.mono e5).full
      refine k l xs rows _ (del s H5) H5 (ex_del (inv.sp.mono e5).ex inv.sp.none_) f (by omega) (by rw [del_ne _ inv.ne]; exact e5 l _ inv.lst) ((inv.rws.mono e5).del f.at_) (rows_wf hN inv.len inv.vals inv.nms) fun z => ?_
      have := inv.len
      rw [z] at this
      simp at this
      omega

end
end EC
end
section
set_option Elab.async false
set_option linter.all false
set_option maxRecDepth 100000
set_option maxHeartbeats 2000000
namespace EC
open PySem PySem.Spec PyProof.Rows L2 Evl
section
variable {P : Program} {w : World} {K : PySem.W.Frag} {mg : Str → Option Value} {base : Heap}
section
variable {σ : L2.St} {H : Hp} {ta tb : TE} {κ p : Addr} {n m : Nat} {rows : List Row} {bd : Str} {E : XK} {z : V}
theorem gm_var {i : Nat} (h : σ[i]? = some (some (.ref p))) (hm : Mem K H p κ n) : Gv (tVar i) σ H (IsMb K κ n) := fun H1 e Q q => ev_var h H1 e Q fun H2 e2 => q _ H2 e2 ⟨p, rfl, hm.mono (e.trans e2)⟩
/-- a kind and its rows -/
structure Kd (K : PySem.W.Frag) (H : Hp) (κ : Addr) (rows : List Row) (bd : Str) : Prop where
  k : KindAt K H κ rows bd
  wf : Wf rows
theorem Kd.mono {H' : Hp} (h : Kd K H κ rows bd) (e : Ex H H') : Kd K H' κ rows bd := ⟨h.k.mono e, h.wf⟩
theorem gv_own {G : Addr → Nat → Nat → V → Hp → Prop} (d : Kd K H κ rows bd) (hn : lt40 n) (hm : lt40 m) (ha : Gv ta σ H (IsMb K κ n)) (hb : Gv tb σ H (IsMb K κ m)) : Gv (tOp (rOwn (C_FlagMember K) (spTwo K G) E) ta tb) σ H (G κ n m) := fun H1 e Q q =>
  ha H1 e _ fun v H2 e2 hv => hb H2 (e.trans e2) _ fun u H3 e3 hu => by
    obtain ⟨p, rfl, hp⟩ := hv
    obtain ⟨r, rfl, hr⟩ := hu
    have hp3 := hp.mono e3
    have d3 := d.mono ((e.trans e2).trans e3)
    obtain ⟨dx, a, b, c, h1⟩ := id hp3
    obtain ⟨dy, a', b', c', h2⟩ := id hr
    exact ⟨p, r, dx, dy, _, _, rfl, rfl, h1, h2, G κ n m, ⟨p, r, κ, n, m, rows, bd, rfl, ⟨hp3, hr, d3.k, d3.wf, hn, hm⟩, rfl⟩, fun v H4 e4 g => q v H4 ((e2.trans e3).trans e4) g⟩
theorem ev_own {f : Nat → Nat → Bool} (d : Kd K H κ rows bd) (hn : lt40 n) (hm : lt40 m) (ha : Gv ta σ H (IsMb K κ n)) (hb : Gv tb σ H (IsMb K κ m)) : Ev (tOp (rOwn (C_FlagMember K) (spTwo K (gB f)) E) ta tb) σ H (.bl (f n m)) := Gv.ev (gv_own d hn hm ha hb)
theorem gv_ownM {f : Nat → Nat → Nat} (d : Kd K H κ rows bd) (hn : lt40 n) (hm : lt40 m) (ha : Gv ta σ H (IsMb K κ n)) (hb : Gv tb σ H (IsMb K κ m)) : Gv (tOp (rOwn (C_FlagMember K) (spTwo K (gM K f)) E) ta tb) σ H (IsMb K κ (f n m)) := gv_own d hn hm ha hb
theorem ev_ownR {f : Nat → Nat → Bool} (d : Kd K H κ rows bd) (hn : lt40 n) (hm : lt40 m) (ha : Gv ta σ H (IsMb K κ n)) (hb : Gv tb σ H (IsMb K κ m)) : Ev (tOp (rOwnR (C_FlagMember K) (spTwo K (gB f)) E) ta tb) σ H (.bl (f m n)) := fun H1 e Q q =>
  ha H1 e _ fun v H2 e2 hv => hb H2 (e.trans e2) _ fun u H3 e3 hu => by
    obtain ⟨p, rfl, hp⟩ := hv
    obtain ⟨r, rfl, hr⟩ := hu
    have hp3 := hp.mono e3
    have d3 := d.mono ((e.trans e2).trans e3)
    obtain ⟨dx, a, b, c, h1⟩ := id hp3
    obtain ⟨dy, a', b', c', h2⟩ := id hr
    exact ⟨p, r, dx, dy, _, _, rfl, rfl, h1, h2, IsV (.bl (f m n)), ⟨r, p, κ, m, n, rows, bd, rfl, ⟨hr, hp3, d3.k, d3.wf, hm, hn⟩, rfl⟩, fun v H4 e4 g => by
      obtain rfl := g
      exact q H4 ((e2.trans e3).trans e4)⟩
theorem ev_ownN {f : Nat → Nat → Bool} (d : Kd K H κ rows bd) (hn : lt40 n) (hm : lt40 m) (ha : Gv ta σ H (IsMb K κ n)) (hb : Gv tb σ H (IsMb K κ m)) : Ev (tOp (rOwnN (C_FlagMember K) (spTwo K (gB f)) E) ta tb) σ H (.bl (!f n m)) := fun H1 e Q q =>
  ha H1 e _ fun v H2 e2 hv => hb H2 (e.trans e2) _ fun u H3 e3 hu => by
    obtain ⟨p, rfl, hp⟩ := hv
    obtain ⟨r, rfl, hr⟩ := hu
    have hp3 := hp.mono e3
    have d3 := d.mono ((e.trans e2).trans e3)
    obtain ⟨dx, a, b, c, h1⟩ := id hp3
    obtain ⟨dy, a', b', c', h2⟩ := id hr
    exact ⟨p, r, dx, dy, _, _, rfl, rfl, h1, h2, IsV (.bl (f n m)), ⟨p, r, κ, n, m, rows, bd, rfl, ⟨hp3, hr, d3.k, d3.wf, hn, hm⟩, rfl⟩, fun v H4 e4 g => by
      obtain rfl := g
      exact ⟨_, rfl, q H4 ((e2.trans e3).trans e4)⟩⟩
theorem ev_inM {f : Nat → Nat → Bool} (d : Kd K H κ rows bd) (hn : lt40 n) (hm : lt40 m) (ha : Gv ta σ H (IsMb K κ n)) (hb : Gv tb σ H (IsMb K κ m)) : Ev (tOp (rInO (C_FlagMember K) (spTwo K (gB f)) E) ta tb) σ H (.bl (f m n)) := fun H1 e Q q =>
  ha H1 e _ fun v H2 e2 hv => hb H2 (e.trans e2) _ fun u H3 e3 hu => by
    obtain ⟨p, rfl, hp⟩ := hv
    obtain ⟨r, rfl, hr⟩ := hu
    have hp3 := hp.mono e3
    have d3 := d.mono ((e.trans e2).trans e3)
    obtain ⟨dy, a', b', c', h2⟩ := id hr
    exact ⟨r, dy, _, rfl, h2, IsV (.bl (f m n)), ⟨r, p, κ, m, n, rows, bd, rfl, ⟨hr, hp3, d3.k, d3.wf, hm, hn⟩, rfl⟩, fun v H4 e4 g => by
      obtain rfl := g
      exact ⟨_, rfl, q H4 ((e2.trans e3).trans e4)⟩⟩
theorem ev_lenM (d : Kd K H κ rows bd) (hn : lt40 n) (ha : Gv ta σ H (IsMb K κ n)) : Ev (tCB (rLenO (C_FlagMember K) (spOne K fun n => IsV (vN (pc n))) E) (tCons ta tNil)) σ H (vN (pc n)) := fun H1 e Q q =>
  ha H1 e _ fun v H2 e2 hv => by
    obtain ⟨p, rfl, hp⟩ := hv
    have d2 := d.mono (e.trans e2)
    have hle := pc_le n
    obtain ⟨dx, a, b, c, h1⟩ := id hp
    exact ⟨p, dx, _, rfl, h1, IsV (vN (pc n)), ⟨p, κ, n, rows, bd, rfl, ⟨hp, d2.k, d2.wf, hn⟩, rfl⟩, fun v H4 e4 g => by
      obtain rfl := g
      exact ⟨_, rfl, by omega, by omega, q H4 (e2.trans e4)⟩⟩
theorem ev_boolM {f : Nat → Bool} (d : Kd K H κ rows bd) (hn : lt40 n) (ha : Gv ta σ H (IsMb K κ n)) : Ev (tCB (rBoolC (C_FlagMember K) (spOne K fun n => IsV (.bl (f n))) E) (tCons ta tNil)) σ H (.bl (f n)) := fun H1 e Q q =>
  ha H1 e _ fun v H2 e2 hv => by
    obtain ⟨p, rfl, hp⟩ := hv
    have d2 := d.mono (e.trans e2)
    obtain ⟨dx, a, b, c, h1⟩ := id hp
    exact ⟨p, dx, _, rfl, h1, IsV (.bl (f n)), ⟨p, κ, n, rows, bd, rfl, ⟨hp, d2.k, d2.wf, hn⟩, rfl⟩, fun v H4 e4 g => by
      obtain rfl := g
      exact ⟨_, rfl, q H4 (e2.trans e4)⟩⟩
/-- a test x != x -/
theorem et_neF (ha : Ev ta σ H z) (hb : Ev tb σ H z) (hs : scal z z = true := by rfl) : EvT (tTest (tOp rNe ta tb)) σ H false := et_test (ev_is (ev_op ha hb (rv_ne hs)) (by rw [decide_eq_true rfl]; rfl))
theorem el_rep {xs : List V} {k : Nat} (ha : EvL ta σ H xs) (hb : Ev tb σ H (vN k)) (hz : xs.length * k ≤ 100000) (hk : k ≤ 1000) : EvL (tOp rRep ta tb) σ H (List.replicate k xs).flatten := fun H1 e Q q =>
  ha H1 e _ fun p H2 hn e2 hp => hb H2 (e.trans e2) _ fun H3 e3 => ⟨p, (k : Int), xs, rfl, rfl, e3 p _ hp, by omega, by omega, by rw [Int.toNat_natCast]; exact sz_of hz, fun r hr => by
    rw [Int.toNat_natCast]
    exact q r _ (fresh_back (e2.trans e3) hr) ((e2.trans e3).trans (Ex.new hr)) upd_same⟩
theorem dp_bools (l : List Bool) : DpAll K H (l.map V.bl) (l.map PyData.bool) := dpall V.bl _ (fun n => .bl _) l
theorem ok_bools (l : List Bool) : ∀ d ∈ l.map PyData.bool, okD d := fun d h => by
  obtain ⟨n, _, rfl⟩ := List.mem_map.mp h
  exact ok_bool _
theorem eqv_bools (l : List Bool) : PyData.eqv (.list (l.map PyData.bool)) (.list (l.map PyData.bool)) = true := by
  have g : PyData.eqvAll (l.map PyData.bool) (l.map PyData.bool) = true := by
    induction l with
    | nil => rfl
    | cons b l ih => simp [PyData.eqvAll, PyData.eqv, ih]
  simpa [PyData.eqv] using g
/-- lists of the same bools -/
theorem et_neL {l : List Bool} (ha : EvL ta σ H (l.map V.bl)) (hb : EvL tb σ H (l.map V.bl)) : EvT (tTest (tOp (rNeD K) ta tb)) σ H false := et_test (ev_opLL ha hb fun p q H1 hp hq _ H2 e2 Q k =>
  ⟨.list (l.map PyData.bool), .list (l.map PyData.bool), .lst (ex_l e2 (sq_of hp)) (dp_bools l), .lst (ex_l e2 (sq_of hq)) (dp_bools l), shaped_list (ok_bools l), shaped_list (ok_bools l), by
    rw [eqv_bools]
    exact k H2 (Ex.refl H2)⟩)
end
/-! plain -/
theorem leB_iff (n m : Nat) : leB n m = true ↔ Sub n m := by
  unfold leB
  rw [decide_eq_true_iff]
  exact sub_iff n m
theorem or_leB (n m : Nat) : decide (n ||| m = m) = leB n m := by
  unfold leB
  exact decide_eq_decide.mpr ((or_iff n m).trans (sub_iff n m).symm)
theorem and_leB (n m : Nat) : decide (m &&& n = n) = leB n m := by
  unfold leB
  rw [Nat.and_comm]
theorem le_le (n m : Nat) : (leB n m && leB m n) = decide (n = m) := by
  rw [Bool.eq_iff_iff, Bool.and_eq_true, leB_iff, leB_iff, decide_eq_true_iff]
  exact ⟨fun h => h.1.anti h.2, fun h => h ▸ ⟨Sub.refl _, Sub.refl _⟩⟩
theorem lt_pc {n m : Nat} (hm : lt40 m) (h : ltB n m = true) : pc n < pc m := by
  unfold ltB at h
  rw [Bool.and_eq_true, leB_iff] at h
  refine pc_lt hm h.2 fun e => ?_
  rw [decide_eq_true e] at h
  cases h.1
theorem andn_leB (n m : Nat) : decide (andn n m = 0) = leB n m := by
  rw [Bool.eq_iff_iff, decide_eq_true_iff, leB_iff]
  exact andn_zero n m
theorem Two.d {H : Hp} {p q κ : Addr} {n m : Nat} {rows : List Row} {bd : Str} (t : Two K H p q κ n m rows bd) : Kd K H κ rows bd := ⟨t.k, t.wf⟩
theorem sc__law_two_right : FnScope ["_law_p", "_law_q", "_law_is_part"] ["_law_p", "_law_q"] (defScope s__law_two_right) := ⟨rfl, rfl, rfl, by decide +kernel, rfl, by decide +kernel, by decide +kernel⟩
theorem fn__law_two_right (T : Tx P w K mg) : ∃ fd, Fn P w K mg base 8 "_law_two_right" ["_law_p", "_law_q"] (spTwo K (gB fun _ _ => true)) fd := by
  obtain ⟨fd, F⟩ := T.f__law_two_right
  obtain ⟨fdM__and__, M__and__⟩ := me_FlagMember_and (base := base) T
  obtain ⟨fdM__bool__, M__bool__⟩ := me_FlagMember_bool (base := base) T
  obtain ⟨fdM__contains__, M__contains__⟩ := me_FlagMember_contains (base := base) T
  obtain ⟨fdM__eq__, M__eq__⟩ := me_FlagMember_eq (base := base) T
  obtain ⟨fdM__le__, M__le__⟩ := me_FlagMember_le (base := base) T
  obtain ⟨fdM__len__, M__len__⟩ := me_FlagMember_len (base := base) T
  obtain ⟨fdM__lt__, M__lt__⟩ := me_FlagMember_lt (base := base) T
  obtain ⟨fdM__or__, M__or__⟩ := me_FlagMember_or (base := base) T
  obtain ⟨fdM__sub__, M__sub__⟩ := me_FlagMember_sub (base := base) T
  obtain ⟨fdM__xor__, M__xor__⟩ := me_FlagMember_xor (base := base) T
  have nd := sc__law_two_right.nd
  refine ⟨fd, ⟨F.ok sc__law_two_right (fun vs H Q E h => ?_) (fun cdv A outer s H vs Q E hr h => ⟨_, PSs.nox ((pss_cons (ps_set (i := 2) nd rfl (Or.inl rfl) (pe_cmpR (op_cmp M__le__.mt M__le__.ok (hr.mono (by decide)) M__le__.b pass0) (pv 0) (pv 1) (nomark _)))
  (pss_cons (ps_if (pt_cmpR (opK_neD (K := K) hr.units) (pe_lst (pa_cons (pe_cmpR (op_cmp M__eq__.mt M__eq__.ok (hr.mono (by decide)) M__eq__.b pass0) (pe_op (op_bin T.fm_self M__or__.mt M__or__.ok (hr.mono (by decide)) M__or__.b pass0) (pv 0) (pv 1)) (pv 1) (nomark _)) (pa_cons (pe_cmpR (op_cmp M__eq__.mt M__eq__.ok (hr.mono (by decide)) M__eq__.b pass0) (pe_op (op_bin T.fm_self M__and__.mt M__and__.ok (hr.mono (by decide)) M__and__.b pass0) (pv 0) (pv 1)) (pv 0) (nomark _)) (pa_cons (pe_cmpR (op_inO M__contains__.mt M__contains__.ok (hr.mono (by decide)) M__contains__.b pass0) (pv 0) (pv 1) (by rfl)) pa_nil)))) (pe_op op_rep (pe_lst (pa_cons (pv 2) pa_nil)) pe_int) (nomark _)) (pss_one (ps_ret pe_bl)) pss_nil)
  (pss_cons (ps_if (pt_cmpR op_ne (pe_and (pv 2) (pe_one (pe_cmpR (op_cmp M__le__.mt M__le__.ok (hr.mono (by decide)) M__le__.b pass0) (pv 1) (pv 0) (nomark _)))) (pe_cmpR (op_cmp M__eq__.mt M__eq__.ok (hr.mono (by decide)) M__eq__.b pass0) (pv 0) (pv 1) (nomark _)) (nomark _)) (pss_one (ps_ret pe_bl)) pss_nil)
  (pss_cons (ps_if (pt_cmpR op_ne (pe_cmpR (op_cmp M__lt__.mt M__lt__.ok (hr.mono (by decide)) M__lt__.b pass0) (pv 0) (pv 1) (nomark _)) (pe_and (pv 2) (pe_one (pe_cmpR (op_neO T.fm_obj T.fm_ne M__eq__.mt M__eq__.ok (hr.mono (by decide)) M__eq__.b pass0) (pv 0) (pv 1) (nomark _)))) (nomark _)) (pss_one (ps_ret pe_bl)) pss_nil)
  (pss_cons (ps_if (PW.pt (pw_or (pt_cmpR op_ne (pe_cmpR (op_gtO T.fm_obj T.fm_gt M__lt__.mt M__lt__.ok (hr.mono (by decide)) M__lt__.b pass0) (pv 0) (pv 1) (nomark _)) (pe_cmpR (op_cmp M__lt__.mt M__lt__.ok (hr.mono (by decide)) M__lt__.b pass0) (pv 1) (pv 0) (nomark _)) (nomark _)) (pw_or1 (pt_cmpR op_ne (pe_cmpR (op_geO T.fm_obj T.fm_ge M__le__.mt M__le__.ok (hr.mono (by decide)) M__le__.b pass0) (pv 0) (pv 1) (nomark _)) (pe_cmpR (op_cmp M__le__.mt M__le__.ok (hr.mono (by decide)) M__le__.b pass0) (pv 1) (pv 0) (nomark _)) (nomark _))))) (pss_one (ps_ret pe_bl)) pss_nil)
  (pss_cons (ps_if (pt_cmpR op_ne (pe_op op_add (pe_callB (call_lenO M__len__.mt M__len__.ok (hr.mono (by decide)) M__len__.b pass0) (by rfl) T.b_len PySem.boot_len (pa_cons (pe_op (op_bin T.fm_self M__or__.mt M__or__.ok (hr.mono (by decide)) M__or__.b pass0) (pv 0) (pv 1)) pa_nil)) (pe_callB (call_lenO M__len__.mt M__len__.ok (hr.mono (by decide)) M__len__.b pass0) (by rfl) T.b_len PySem.boot_len (pa_cons (pe_op (op_bin T.fm_self M__and__.mt M__and__.ok (hr.mono (by decide)) M__and__.b pass0) (pv 0) (pv 1)) pa_nil))) (pe_op op_add (pe_callB (call_lenO M__len__.mt M__len__.ok (hr.mono (by decide)) M__len__.b pass0) (by rfl) T.b_len PySem.boot_len (pa_cons (pv 0) pa_nil)) (pe_callB (call_lenO M__len__.mt M__len__.ok (hr.mono (by decide)) M__len__.b pass0) (by rfl) T.b_len PySem.boot_len (pa_cons (pv 1) pa_nil))) (nomark _)) (pss_one (ps_ret pe_bl)) pss_nil)
  (pss_cons (ps_if (pt_cmpR op_ne (pe_callB (call_lenO M__len__.mt M__len__.ok (hr.mono (by decide)) M__len__.b pass0) (by rfl) T.b_len PySem.boot_len (pa_cons (pe_op (op_bin T.fm_self M__xor__.mt M__xor__.ok (hr.mono (by decide)) M__xor__.b pass0) (pv 0) (pv 1)) pa_nil)) (pe_op op_add (pe_callB (call_lenO M__len__.mt M__len__.ok (hr.mono (by decide)) M__len__.b pass0) (by rfl) T.b_len PySem.boot_len (pa_cons (pe_op (op_bin T.fm_self M__sub__.mt M__sub__.ok (hr.mono (by decide)) M__sub__.b pass0) (pv 0) (pv 1)) pa_nil)) (pe_callB (call_lenO M__len__.mt M__len__.ok (hr.mono (by decide)) M__len__.b pass0) (by rfl) T.b_len PySem.boot_len (pa_cons (pe_op (op_bin T.fm_self M__sub__.mt M__sub__.ok (hr.mono (by decide)) M__sub__.b pass0) (pv 1) (pv 0)) pa_nil))) (nomark _)) (pss_one (ps_ret pe_bl)) pss_nil)
  (pss_cons (ps_if (PW.pt (pw_and (pt_cmpR (op_cmp M__lt__.mt M__lt__.ok (hr.mono (by decide)) M__lt__.b pass0) (pv 0) (pv 1) (nomark _)) (pw_and1 (pt_cmpR op_ge (pe_callB (call_lenO M__len__.mt M__len__.ok (hr.mono (by decide)) M__len__.b pass0) (by rfl) T.b_len PySem.boot_len (pa_cons (pv 0) pa_nil)) (pe_callB (call_lenO M__len__.mt M__len__.ok (hr.mono (by decide)) M__len__.b pass0) (by rfl) T.b_len PySem.boot_len (pa_cons (pv 1) pa_nil)) (nomark _))))) (pss_one (ps_ret pe_bl)) pss_nil)
  (pss_one (ps_ret (pe_cmpR op_ne (pe_callTy (call_boolO M__bool__.mt M__bool__.ok (hr.mono (by decide)) M__bool__.b pass0) (by rfl) T.b_bool bo_bool (pa_cons (pe_op (op_bin T.fm_self M__sub__.mt M__sub__.ok (hr.mono (by decide)) M__sub__.b pass0) (pv 0) (pv 1)) pa_nil)) (pe_cmpR (op_cmp M__le__.mt M__le__.ok (hr.mono (by decide)) M__le__.b pass0) (pv 0) (pv 1) (nomark _)) (nomark _))))))))))))), ?_⟩), F.bindsN fun _ _ _ _ _ _ us hl => match us, hl with | [_, _], _ => rfl, F.kp, T.m__law_two_right⟩⟩
  · obtain ⟨_, h, _⟩ := h
    obtain ⟨p, q, κ, n, m, rows, bd, rfl, h, rfl⟩ := h
    rfl
  · obtain ⟨Pz, h, k⟩ := h
    obtain ⟨p, q, κ, n, m, rows, bd, rfl, h, rfl⟩ := h
    refine q_asg (ev_own h.d h.n h.m (gm_var rfl h.p) (gm_var rfl h.q)) fun H1 e1 => ?_
    have h1 := h.mono e1
    refine q_when (b := false) (et_neL (l := [leB n m, leB n m, leB n m]) (el_lst (ea_cons (ev_is (ev_own h1.d (lt_or h1.n h1.m) h1.m (gv_ownM h1.d h1.n h1.m (gm_var rfl h1.p) (gm_var rfl h1.q)) (gm_var rfl h1.q)) (congrArg V.bl (or_leB n m)))
      (ea_cons (ev_own h1.d (lt_and h1.n) h1.n (gv_ownM h1.d h1.n h1.m (gm_var rfl h1.p) (gm_var rfl h1.q)) (gm_var rfl h1.p)) (ea_cons (ev_is (ev_inM h1.d h1.n h1.m (gm_var rfl h1.p) (gm_var rfl h1.q)) (congrArg V.bl (and_leB n m))) ea_nil))) (by show 3 ≤ 100000; decide))
      (el_is (el_rep (k := 3) (el_lst (ea_cons (ev_var rfl) ea_nil) (by show 1 ≤ 100000; decide)) ev_c (by show 1 * 3 ≤ 100000; decide) (by decide)) rfl)) (fun z => nomatch z) fun _ H2 e2 => ?_
    have h2 := h1.mono e2
    refine q_when (b := false) (et_neF (z := .bl (decide (n = m))) (ev_is (ev_andV (ev_var rfl) fun _ => ev_own h2.d h2.m h2.n (gm_var rfl h2.q) (gm_var rfl h2.p)) (congrArg V.bl (le_le n m))) (ev_own h2.d h2.n h2.m (gm_var rfl h2.p) (gm_var rfl h2.q))) (fun z => nomatch z) fun _ H3 e3 => ?_
    have h3 := h2.mono e3
    refine q_when (b := false) (et_neF (z := .bl (ltB n m)) (ev_own h3.d h3.n h3.m (gm_var rfl h3.p) (gm_var rfl h3.q)) (ev_is (ev_andV (ev_var rfl) fun _ => ev_ownN h3.d h3.n h3.m (gm_var rfl h3.p) (gm_var rfl h3.q)) (congrArg V.bl (Bool.and_comm _ _)))) (fun z => nomatch z) fun _ H4 e4 => ?_
    have h4 := h3.mono e4
    refine q_when (b := false) (et_or (a := false) (b := false) (et_neF (ev_ownR h4.d h4.n h4.m (gm_var rfl h4.p) (gm_var rfl h4.q)) (ev_own h4.d h4.m h4.n (gm_var rfl h4.q) (gm_var rfl h4.p))) fun _ => et_neF (ev_ownR h4.d h4.n h4.m (gm_var rfl h4.p) (gm_var rfl h4.q)) (ev_own h4.d h4.m h4.n (gm_var rfl h4.q) (gm_var rfl h4.p))) (fun z => nomatch z) fun _ H5 e5 => ?_
    have h5 := h4.mono e5
    refine q_when (b := false) (et_neF (z := vN (pc n + pc m)) (ev_is (ev_op (ev_lenM h5.d (lt_or h5.n h5.m) (gv_ownM h5.d h5.n h5.m (gm_var rfl h5.p) (gm_var rfl h5.q))) (ev_lenM h5.d (lt_and h5.n) (gv_ownM h5.d h5.n h5.m (gm_var rfl h5.p) (gm_var rfl h5.q))) rv_I0) (by have := pc_or_and n m; exact congrArg V.int (by omega)))
      (ev_op (ev_lenM h5.d h5.n (gm_var rfl h5.p)) (ev_lenM h5.d h5.m (gm_var rfl h5.q)) rv_I0)) (fun z => nomatch z) fun _ H6 e6 => ?_
    have h6 := h5.mono e6
    refine q_when (b := false) (et_neF (z := vN (pc (n ^^^ m))) (ev_lenM h6.d (lt_xor h6.n h6.m) (gv_ownM h6.d h6.n h6.m (gm_var rfl h6.p) (gm_var rfl h6.q)))
      (ev_is (ev_op (ev_lenM h6.d (lt_andn h6.n) (gv_ownM h6.d h6.n h6.m (gm_var rfl h6.p) (gm_var rfl h6.q))) (ev_lenM h6.d (lt_andn h6.m) (gv_ownM h6.d h6.m h6.n (gm_var rfl h6.q) (gm_var rfl h6.p))) rv_I0) (by have := pc_xor n m; exact congrArg V.int (by omega)))) (fun z => nomatch z) fun _ H7 e7 => ?_
    have h7 := h6.mono e7
    refine q_when (b := false) (et_is (et_and (et_test (ev_own h7.d h7.n h7.m (gm_var rfl h7.p) (gm_var rfl h7.q))) fun _ => et_test (ev_op (ev_lenM h7.d h7.n (gm_var rfl h7.p)) (ev_lenM h7.d h7.m (gm_var rfl h7.q)) rv_I0)) ?_) (fun z => nomatch z) fun _ H8 e8 => ?_
    · cases hl : ltB n m with
      | false => rfl
      | true =>
        have := lt_pc h.m hl
        rw [Bool.true_and]
        exact decide_eq_false (by omega)
    have h8 := h7.mono e8
    refine s_ret (ev_is (ev_op (ev_boolM h8.d (lt_andn h8.n) (gv_ownM h8.d h8.n h8.m (gm_var rfl h8.p) (gm_var rfl h8.q))) (ev_own h8.d h8.n h8.m (gm_var rfl h8.p) (gm_var rfl h8.q)) (rv_ne rfl)) (w := .bl true) ?_) fun H9 e9 => k _ H9 ((((((((e1.trans e2).trans e3).trans e4).trans e5).trans e6).trans e7).trans e8).trans e9) rfl
    rw [andn_leB]
    cases leB n m <;> rfl
def spThree (K : PySem.W.Frag) : Sp := mkSp fun vs H P => ∃ (p q r κ : Addr) (n m o : Nat) (rows : List Row) (bd : Str), vs = [.ref p, .ref q, .ref r] ∧ Two K H p q κ n m rows bd ∧ Mem K H r κ o ∧ lt40 o ∧ P = IsV (.bl true)
theorem b3 {a b c : Bool} (h : a = true → b = true → c = true) : (a && (b && !c)) = false := by
  cases a with
  | false => rfl
  | true => cases b with
    | false => rfl
    | true => rw [h rfl rfl]; rfl
theorem sc__law_three_right : FnScope ["_law_p", "_law_q", "_law_r"] ["_law_p", "_law_q", "_law_r"] (defScope s__law_three_right) := ⟨rfl, rfl, rfl, by decide +kernel, rfl, by decide +kernel, by decide +kernel⟩
theorem fn__law_three_right (T : Tx P w K mg) : ∃ fd, Fn P w K mg base 8 "_law_three_right" ["_law_p", "_law_q", "_law_r"] (spThree K) fd := by
  obtain ⟨fd, F⟩ := T.f__law_three_right
  obtain ⟨fdM__and__, M__and__⟩ := me_FlagMember_and (base := base) T
  obtain ⟨fdM__le__, M__le__⟩ := me_FlagMember_le (base := base) T
  obtain ⟨fdM__or__, M__or__⟩ := me_FlagMember_or (base := base) T
  have nd := sc__law_three_right.nd
  refine ⟨fd, ⟨F.ok sc__law_three_right (fun vs H Q E h => ?_) (fun cdv A outer s H vs Q E hr h => ⟨_, PSs.nox ((pss_cons (ps_if (PW.pt (pw_and (pt_cmpR (op_cmp M__le__.mt M__le__.ok (hr.mono (by decide)) M__le__.b pass0) (pv 0) (pv 1) (nomark _)) (pw_and (pt_cmpR (op_cmp M__le__.mt M__le__.ok (hr.mono (by decide)) M__le__.b pass0) (pv 1) (pv 2) (nomark _)) (pw_and1 (pt_not (pt_cmpR (op_cmp M__le__.mt M__le__.ok (hr.mono (by decide)) M__le__.b pass0) (pv 0) (pv 2) (nomark _))))))) (pss_one (ps_ret pe_bl)) pss_nil)
  (pss_cons (ps_if (PW.pt (pw_and (pt_cmpR (op_cmp M__le__.mt M__le__.ok (hr.mono (by decide)) M__le__.b pass0) (pv 0) (pv 2) (nomark _)) (pw_and (pt_cmpR (op_cmp M__le__.mt M__le__.ok (hr.mono (by decide)) M__le__.b pass0) (pv 1) (pv 2) (nomark _)) (pw_and1 (pt_not (pt_cmpR (op_cmp M__le__.mt M__le__.ok (hr.mono (by decide)) M__le__.b pass0) (pe_op (op_bin T.fm_self M__or__.mt M__or__.ok (hr.mono (by decide)) M__or__.b pass0) (pv 0) (pv 1)) (pv 2) (nomark _))))))) (pss_one (ps_ret pe_bl)) pss_nil)
  (pss_cons (ps_if (PW.pt (pw_and (pt_cmpR (op_cmp M__le__.mt M__le__.ok (hr.mono (by decide)) M__le__.b pass0) (pv 2) (pv 0) (nomark _)) (pw_and (pt_cmpR (op_cmp M__le__.mt M__le__.ok (hr.mono (by decide)) M__le__.b pass0) (pv 2) (pv 1) (nomark _)) (pw_and1 (pt_not (pt_cmpR (op_cmp M__le__.mt M__le__.ok (hr.mono (by decide)) M__le__.b pass0) (pv 2) (pe_op (op_bin T.fm_self M__and__.mt M__and__.ok (hr.mono (by decide)) M__and__.b pass0) (pv 0) (pv 1)) (nomark _))))))) (pss_one (ps_ret pe_bl)) pss_nil)
  (pss_one (ps_ret (pe_or (pe_not (pe_cmpR (op_cmp M__le__.mt M__le__.ok (hr.mono (by decide)) M__le__.b pass0) (pv 0) (pv 1) (nomark _))) (pe_one (pe_and (pe_cmpR (op_cmp M__le__.mt M__le__.ok (hr.mono (by decide)) M__le__.b pass0) (pe_op (op_bin T.fm_self M__or__.mt M__or__.ok (hr.mono (by decide)) M__or__.b pass0) (pv 0) (pv 2)) (pe_op (op_bin T.fm_self M__or__.mt M__or__.ok (hr.mono (by decide)) M__or__.b pass0) (pv 1) (pv 2)) (nomark _)) (pe_one (pe_cmpR (op_cmp M__le__.mt M__le__.ok (hr.mono (by decide)) M__le__.b pass0) (pe_op (op_bin T.fm_self M__and__.mt M__and__.ok (hr.mono (by decide)) M__and__.b pass0) (pv 0) (pv 2)) (pe_op (op_bin T.fm_self M__and__.mt M__and__.ok (hr.mono (by decide)) M__and__.b pass0) (pv 1) (pv 2)) (nomark _)))))))))))), ?_⟩), F.bindsN fun _ _ _ _ _ _ us hl => match us, hl with | [_, _, _], _ => rfl, F.kp, T.m__law_three_right⟩⟩
  · obtain ⟨_, h, _⟩ := h
    obtain ⟨p, q, r, κ, n, m, o, rows, bd, rfl, h, hr, ho, rfl⟩ := h
    rfl
  · obtain ⟨Pz, h, k⟩ := h
    obtain ⟨p, q, r, κ, n, m, o, rows, bd, rfl, h, hr, ho, rfl⟩ := h
    refine q_when (b := false) (et_is (et_and (et_test (ev_own h.d h.n h.m (gm_var rfl h.p) (gm_var rfl h.q))) fun _ => et_and (et_test (ev_own h.d h.m ho (gm_var rfl h.q) (gm_var rfl hr))) fun _ => et_not (et_test (ev_own h.d h.n ho (gm_var rfl h.p) (gm_var rfl hr)))) (b3 fun a b => (leB_iff _ _).mpr (((leB_iff _ _).mp a).trans ((leB_iff _ _).mp b)))) (fun z => nomatch z) fun _ H1 e1 => ?_
    have h1 := h.mono e1
    have r1 := hr.mono e1
    refine q_when (b := false) (et_is (et_and (et_test (ev_own h1.d h1.n ho (gm_var rfl h1.p) (gm_var rfl r1))) fun _ => et_and (et_test (ev_own h1.d h1.m ho (gm_var rfl h1.q) (gm_var rfl r1))) fun _ => et_not (et_test (ev_own h1.d (lt_or h1.n h1.m) ho (gv_ownM h1.d h1.n h1.m (gm_var rfl h1.p) (gm_var rfl h1.q)) (gm_var rfl r1)))) (b3 fun a b => (leB_iff _ _).mpr (sub_or ((leB_iff _ _).mp a) ((leB_iff _ _).mp b)))) (fun z => nomatch z) fun _ H2 e2 => ?_
    have h2 := h1.mono e2
    have r2 := r1.mono e2
    refine q_when (b := false) (et_is (et_and (et_test (ev_own h2.d ho h2.n (gm_var rfl r2) (gm_var rfl h2.p))) fun _ => et_and (et_test (ev_own h2.d ho h2.m (gm_var rfl r2) (gm_var rfl h2.q))) fun _ => et_not (et_test (ev_own h2.d ho (lt_and h2.n) (gm_var rfl r2) (gv_ownM h2.d h2.n h2.m (gm_var rfl h2.p) (gm_var rfl h2.q))))) (b3 fun a b => (leB_iff _ _).mpr (sub_and ((leB_iff _ _).mp a) ((leB_iff _ _).mp b)))) (fun z => nomatch z) fun _ H3 e3 => ?_
    have h3 := h2.mono e3
    have r3 := r2.mono e3
    refine s_ret (ev_is (ev_orV (ev_notV (ev_own h3.d h3.n h3.m (gm_var rfl h3.p) (gm_var rfl h3.q))) fun _ => ev_andV (ev_own h3.d (lt_or h3.n ho) (lt_or h3.m ho) (gv_ownM h3.d h3.n ho (gm_var rfl h3.p) (gm_var rfl r3)) (gv_ownM h3.d h3.m ho (gm_var rfl h3.q) (gm_var rfl r3))) fun _ => ev_own h3.d (lt_and h3.n) (lt_and h3.m) (gv_ownM h3.d h3.n ho (gm_var rfl h3.p) (gm_var rfl r3)) (gv_ownM h3.d h3.m ho (gm_var rfl h3.q) (gm_var rfl r3))) (w := .bl true) ?_) fun H4 e4 => k _ H4 (((e1.trans e2).trans e3).trans e4) rfl
    refine congrArg V.bl ?_
    cases hl : leB n m with
    | false => rfl
    | true =>
      have hs := (leB_iff _ _).mp hl
      rw [(leB_iff _ _).mpr (sub_or_mono hs), (leB_iff _ _).mpr (sub_and_mono hs)]
      rfl

end
end EC
end
section
set_option Elab.async false
set_option linter.all false
set_option maxRecDepth 100000
set_option maxHeartbeats 2000000
namespace EC
open PySem PySem.Spec PyProof.Rows L2 Evl
section
variable {P : Program} {w : World} {K : PySem.W.Frag} {mg : Str → Option Value} {base : Heap}
/-! plain: parts -/
theorem orL_bit (l : List Nat) (i : Nat) : (orL l).testBit i = l.any fun x => x.testBit i := by
  have g : ∀ (l : List Nat) (a : Nat), (l.foldl (· ||| ·) a).testBit i = (a.testBit i || l.any fun x => x.testBit i) := by
    intro l
    induction l with
    | nil => exact fun a => (Bool.or_false _).symm
    | cons b l ih => exact fun a => by rw [List.foldl_cons, ih, Nat.testBit_or, List.any_cons, Bool.or_assoc]
  have := g l 0
  rw [Nat.zero_testBit, Bool.false_or] at this
  exact this
theorem orL_cons (x : Nat) (l : List Nat) : orL (x :: l) = x ||| orL l := by
  apply Nat.eq_of_testBit_eq
  intro i
  rw [orL_bit, Nat.testBit_or, orL_bit, List.any_cons]
theorem pow_any (l : List Nat) (i : Nat) : ((l.map fun j => 2 ^ j).any fun x => x.testBit i) = decide (i ∈ l) := by
  rw [Bool.eq_iff_iff, List.any_eq_true, decide_eq_true_iff]
  constructor
  · rintro ⟨x, hx, h⟩
    obtain ⟨j, hj, rfl⟩ := List.mem_map.mp hx
    rw [Nat.testBit_two_pow, decide_eq_true_iff] at h
    exact h ▸ hj
  · exact fun h => ⟨2 ^ i, List.mem_map.mpr ⟨i, h, rfl⟩, by rw [Nat.testBit_two_pow, decide_eq_true rfl]⟩
theorem sum_or : ∀ l : List Nat, l.Nodup → (l.map fun j => 2 ^ j).sum = orL (l.map fun j => 2 ^ j)
  | [], _ => rfl
  | x :: l, h => by
    rw [List.map_cons, List.sum_cons, orL_cons, sum_or l (List.nodup_cons.mp h).2]
    refine add_or _ _ ?_
    apply Nat.eq_of_testBit_eq
    intro i
    rw [Nat.testBit_and, Nat.zero_testBit, orL_bit, pow_any, Nat.testBit_two_pow]
    cases e : decide (x = i) with
    | false => rfl
    | true =>
      have e2 := of_decide_eq_true e
      subst e2
      rw [Bool.true_and]
      exact decide_eq_false (List.nodup_cons.mp h).1
def takenI (n : Nat) (xs : List Nat) : List Nat := (pcs n).filter fun i => decide (2 ^ i ∈ xs)
theorem taken_map (n : Nat) (xs : List Nat) : takenL n xs = (takenI n xs).map fun i => 2 ^ i := by
  unfold takenL takenI
  rw [List.filter_map]
  rfl
theorem takenI_mem {n i : Nat} {xs : List Nat} (h : i ∈ takenI n xs) : i < 40 ∧ n.testBit i = true := by
  have h2 := (List.mem_filter.mp (List.mem_filter.mp h).1)
  exact ⟨List.mem_range.mp h2.1, h2.2⟩
theorem taken_sum (n : Nat) (xs : List Nat) : (takenL n xs).sum = orL (takenL n xs) := by
  rw [taken_map]
  exact sum_or _ ((List.nodup_range.filter _).filter _)
theorem pc_two : ∀ i, i < 40 → pc (2 ^ i) = 1 := by decide +kernel
theorem taken_bit {n b : Nat} {xs : List Nat} (h : b ∈ takenL n xs) : lt40 b ∧ Sub b n ∧ pc b = 1 := by
  rw [taken_map] at h
  obtain ⟨i, hi, rfl⟩ := List.mem_map.mp h
  obtain ⟨h1, h2⟩ := takenI_mem hi
  refine ⟨lt_pow h1, fun j hj => ?_, pc_two i h1⟩
  rw [Nat.testBit_two_pow, decide_eq_true_iff] at hj
  exact hj ▸ h2
theorem valOf_mem {rows : List Row} {z : Str} (h : z ∈ rows.map (·.1)) : ∃ r ∈ rows, valOf rows z = r.2 := by
  obtain ⟨r, hr, rfl⟩ := List.mem_map.mp h
  unfold valOf
  have hm : r.2 ∈ (rows.filter fun q => decide (q.1 = r.1)).map (·.2) := List.mem_map.mpr ⟨r, List.mem_filter.mpr ⟨hr, decide_eq_true rfl⟩, rfl⟩
  cases e : (rows.filter fun q => decide (q.1 = r.1)).map (·.2) with
  | nil =>
    rw [e] at hm
    cases hm
  | cons v l =>
    have hv : v ∈ (rows.filter fun q => decide (q.1 = r.1)).map (·.2) := by rw [e]; exact List.mem_cons_self
    obtain ⟨q, hq, rfl⟩ := List.mem_map.mp hv
    exact ⟨q, (List.mem_filter.mp hq).1, rfl⟩
/-! f(x), f a kind -/
theorem raw0 {CX : CXT} {k : Nat} {f : Addr} {fd : FuncData} {ps : List Str} {sp : Sp} (F : FnOk P w K mg base CX k f fd ps sp) (hb : Binds K fd ps []) : FnR P w K mg base CX k f sp := FnR.imp (FnOk.raw F hb .nil) fun vs H Q E h => by
  show sp (vs ++ []) H Q E
  rw [List.append_nil]
  exact h
def tCallM (C : Addr) (sp : Sp) (E : XK) (tf : TE) (t : TA) : TE := fun σ H Q => tf σ H fun y H1 => ∃ a, y = V.ref a ∧ t σ H1 fun vs H2 => (∃ dx fs, H2 a = some (.ins C dx fs)) ∧ sp (V.ref a :: vs) H2 Q E
theorem pe_callM {X : Cx} {CX : CXT} {k : Nat} {C g : Addr} {sp : Sp} {E : XK} {pos : Pos} {e fe : Expr} {es : List Expr} {tf : TE} {t : TA} (hf : PE X fe tf) (c : StX.CallO X.K C g) (F : FnR X.prog X.w X.K X.mg X.base CX k g sp) (hr : Room k X.A) (hx : Passes CX X E) (ha : PA X (e :: es) t)
    (ht : eval (.Call fe (e :: es) [] pos) X.env = (do callWith pos (← eval fe X.env) [] (backTo pos (starEach (e :: es) X.env)) (backToKw pos (keywordEach [] X.env))) := by rfl)
    (he : starEach (e :: es) X.env = (false, eval e X.env) :: starEach es X.env := by rfl) (hpl : (backTo pos (starEach es X.env)).any (·.1) = false := by rfl) : PE X (.Call fe (e :: es) [] pos) (tCallM C sp E tf t) := by
  refine ⟨fun pins s σ H Q I h => Call_ (thn (hf.run pins s σ H _ I h) fun u s1 q1 => ?_) ht⟩
  obtain ⟨y, H1, I1, ry, a, rfl, q⟩ := q1
  cases ry
  refine StX.callO_with (thn (ha.run pos pins s1 σ H1 _ I1 q) fun us s2 q3 => ?_) he hpl
  obtain ⟨vs, H2, I2, r, ⟨dx, fs, hi⟩, q2⟩ := q3
  have hi2 : StX.InsC X H2 a C := Or.inr ⟨dx, fs, hi⟩
  obtain ⟨ox, od, J, hd⟩ := StX.insC_at I2 hi2
  exact ⟨⟨C, ox, od, J, hd⟩, StX.run_callO c F hr hx I2 hi2 r q2⟩
section
variable {σ : L2.St} {H : Hp} {ta tb : TE} {κ p : Addr} {n m : Nat} {rows : List Row} {bd : Str} {E : XK} {z : V}
theorem gv_callK (d : Kd K H κ rows bd) (hn : lt40 n) (hr : Reads rows bd n) (ha : Ev ta σ H (.ref κ)) (hb : Ev tb σ H (vN n)) : Gv (tCallM (C_Kind K) (spLook K (IsMb K)) E ta (tCons tb tNil)) σ H (IsMb K κ n) := fun H1 e Q q =>
  ha H1 e _ fun H2 e2 => ⟨κ, rfl, hb H2 (e.trans e2) _ fun H3 e3 => by
    have d3 := d.mono ((e.trans e2).trans e3)
    obtain ⟨dx, r, nm, bs, st, ln, hk⟩ := id d3.k
    exact ⟨⟨dx, _, hk.ins⟩, IsMb K κ n, ⟨κ, n, rows, bd, rfl, d3.k, d3.wf, hn, hr, rfl⟩, fun v H4 e4 g => q v H4 ((e2.trans e3).trans e4) g⟩⟩
theorem gv_subK {z : Str} (d : Kd K H κ rows bd) (hz : z ∈ rows.map (·.1)) (ha : Ev ta σ H (.ref κ)) (hb : Ev tb σ H (.str z)) : Gv (tOp (rIxO (C_Kind K) (spGetK K) E) ta tb) σ H (IsMb K κ (valOf rows z)) := fun H1 e Q q =>
  ha H1 e _ fun H2 e2 => hb H2 (e.trans e2) _ fun H3 e3 => by
    have d3 := d.mono ((e.trans e2).trans e3)
    obtain ⟨dx, r, nm, bs, st, ln, hk⟩ := id d3.k
    exact ⟨κ, dx, _, rfl, hk.ins, IsMb K κ (valOf rows z), ⟨κ, z, rows, bd, rfl, d3.k, d3.wf, hz, rfl⟩, fun v H4 e4 g => q v H4 ((e2.trans e3).trans e4) g⟩
theorem gv_zM {f : Nat → Nat → Nat} {m : Str} {z : Str} (d : Kd K H κ rows bd) (hn : lt40 n) (hz : z ∈ rows.map (·.1)) (hl : ∀ a b c, (memFs κ n a b c).lookup m = none) (ha : Gv ta σ H (IsMb K κ n)) (hb : Ev tb σ H (.str z)) :
    Gv (tMeth (C_FlagMember K) m (spOneZ K fun κ n v => IsMb K κ (f n v)) [] E ta (tCons tb tNil)) σ H (IsMb K κ (f n (valOf rows z))) := fun H1 e Q q =>
  ha H1 e _ fun v H2 e2 hv => by
    obtain ⟨p, rfl, hp⟩ := hv
    have d2 := d.mono (e.trans e2)
    exact gv_mem (ev_c (v := .ref p)) hp hl (ea_cons (hb.mono (e.trans e2)) ea_nil) (spg fun H3 e3 => ⟨p, κ, n, z, rows, bd, rfl, ⟨hp.mono e3, (d2.mono e3).k, d2.wf, hn⟩, hz, rfl⟩) H2 (Ex.refl H2) Q fun v H4 e4 pv => q v H4 (e2.trans e4) pv
theorem ev_restM (d : Kd K H κ rows bd) (hn : lt40 n) (ha : Gv ta σ H (IsMb K κ n)) : Ev (tProp (C_FlagMember K) (spRest K) [] E ta) σ H (.int (restOf rows n)) := fun H1 e Q q =>
  ha H1 e _ fun v H2 e2 hv => by
    obtain ⟨p, rfl, hp⟩ := hv
    have d2 := d.mono (e.trans e2)
    obtain ⟨dx, a, b, c, h1⟩ := id hp
    exact ⟨p, dx, _, rfl, h1, _, ⟨p, κ, n, rows, bd, rfl, ⟨hp, d2.k, d2.wf, hn⟩, rfl⟩, fun v H4 e4 g => by
      obtain rfl := g
      exact q H4 (e2.trans e4)⟩
def PartsV (K : PySem.W.Frag) (κ : Addr) (bs : List Nat) : V → Hp → Prop := fun v H' => ∃ p ys, v = .ref p ∧ H' p = some (.lst ys) ∧ PartsAt K H' κ ys bs
theorem gv_parts (d : Kd K H κ rows bd) (hn : lt40 n) (ha : Gv ta σ H (IsMb K κ n)) : Gv (tListG (tMethG (C_FlagMember K) "parts" (spParts K) [] E ta tNil)) σ H (PartsV K κ (takenL n (singlesL rows))) := fun H1 e Q q =>
  ha H1 e _ fun v H2 e2 hv => by
    obtain ⟨p, rfl, hp⟩ := hv
    have d2 := d.mono (e.trans e2)
    obtain ⟨dx, a, b, c, h1⟩ := id hp
    exact ⟨p, dx, _, rfl, h1, rfl, p, κ, n, rows, bd, rfl, hp, d2.k, d2.wf, hn, fun ys H3 e3 hy r hr => q _ _ ((e2.trans e3).trans (Ex.new hr)) ⟨r, ys, rfl, upd_same, hy.mono (Ex.new hr)⟩⟩
end
theorem no_stop : NoStop K E0 := fun _ _ _ h => h.elim
theorem pass_gen {X : Cx} : Passes (L2.CX X.prog X.w) X E0 := fun _ _ _ _ _ _ _ h => by
  obtain ⟨a, B, H', cls, d, _, _, _, _, _, _, _, h⟩ := h
  exact h.elim
theorem q_forGT {σ : L2.St} {H : Hp} {tl : TE} {D : Ends} {tz tb : TS} {g : TG} {xs : List V} (h : Gv tl σ H (fun v H' => ∃ p, v = .ref p ∧ H' p = some (.tup xs))) (Pv : Hp → Nat → L2.St → Hp → Prop) (hE : ∀ H1 i σ' H', Pv H1 i σ' H' → Ex H1 H') (h0 : ∀ H1, Ex H H1 → Pv H1 0 σ H1)
    (hs : ∀ H1 i x σ' H', Ex H H1 → xs[i]? = some x → Pv H1 i σ' H' → g x σ' H' fun σ2 H2 => tb { D with nx := Pv H1 (i + 1), ct := Pv H1 (i + 1), bk := tz D } σ2 H2) (hd : ∀ H1 σ' H', Ex H H1 → Pv H1 xs.length σ' H' → tz D σ' H') : tSeq (tFor (iTup K tl) g tb) tz D σ H :=
  h H (Ex.refl H) _ fun v H1 e1 hv => by
    obtain ⟨p, rfl, hp⟩ := hv
    exact ⟨p, rfl, ⟨xs, st_of hp⟩, for_tup (D := { D with nx := tz D }) (Pv H1) (h0 H1 e1) (fun i σ' H' _ q => st_of (hE H1 i σ' H' q p _ hp)) (fun i x σ' H' hx q => hs H1 i x σ' H' e1 hx q) (fun σ' H' q => hd H1 σ' H' e1 q)⟩
def spPartsRight (K : PySem.W.Frag) : Sp := mkSp fun vs H P => ∃ (κ p : Addr) (n : Nat) (rows : List Row) (bd : Str), vs = [.ref κ, .ref p] ∧ Kd K H κ rows bd ∧ Mem K H p κ n ∧ lt40 n ∧ P = IsV (.bl true)
theorem or_no {a b : Bool} (h : a = true) (g : b = false) : (!a || b) = false := by
  rw [h, g]
  rfl
theorem ne_no {x y : V} (h : x = y) : (!decide (x = y)) = false := by
  rw [decide_eq_true h]
  rfl
theorem sc__law_parts_right : FnScope ["_law_flag_here", "_law_p", "_law_one", "_law_word", "_law_parts", "_law_total", "_law_q"] ["_law_flag_here", "_law_p"] (defScope s__law_parts_right) := ⟨rfl, rfl, rfl, by decide +kernel, rfl, by decide +kernel, by decide +kernel⟩
theorem fn__law_parts_right (T : Tx P w K mg) (Z : Tp K) : ∃ fd, Fn P w K mg base 10 "_law_parts_right" ["_law_flag_here", "_law_p"] (spPartsRight K) fd := by
  obtain ⟨fd, F⟩ := T.f__law_parts_right
  obtain ⟨fdM__and__, M__and__⟩ := me_FlagMember_and (base := base) T
  obtain ⟨fdM__eq__, M__eq__⟩ := me_FlagMember_eq (base := base) T
  obtain ⟨fdM__getitem__, M__getitem__⟩ := me_Kind_getitem (base := base) T
  obtain ⟨fdM__le__, M__le__⟩ := me_FlagMember_le (base := base) T
  obtain ⟨fdM__len__, M__len__⟩ := me_FlagMember_len (base := base) T
  obtain ⟨fdM__or__, M__or__⟩ := me_FlagMember_or (base := base) T
  obtain ⟨fdMwith_bit, Mwith_bit⟩ := me_FlagMember_with_bit (base := base) T
  obtain ⟨fdMwithout, Mwithout⟩ := me_FlagMember_without (base := base) T
  obtain ⟨fdO__call__, O__call__⟩ := me_Kind_call (base := base) T
  obtain ⟨fdPall_names, Pall_names⟩ := pr_Kind_all_names (base := base) T
  obtain ⟨fdPrest, Prest⟩ := pr_FlagMember_rest (base := base) T
  obtain ⟨fdP, GP, bP⟩ := gme_parts (base := base) T Z
  have nd := sc__law_parts_right.nd
  refine ⟨fd, ⟨F.ok sc__law_parts_right (fun vs H Q E h => ?_) (fun cdv A outer s H vs Q E hr h => ⟨_, PSs.nox ((pss_cons (ps_par (i := 4) (j := 5) rfl nd rfl rfl (by decide) rfl rfl (pa_cons (pe_listG (pgen_meth0 (pv 1) T.c_FlagMember Z.mt GP (hr.mono (by decide)) bP .nil) pass_gen no_stop hr (by rfl) T.b_list bo_list) (pa_cons (pe_callM (pv 0) T.k_call (raw0 O__call__.ok O__call__.b) (hr.mono (by decide)) pass0 (pa_cons pe_int pa_nil)) pa_nil)) (by rfl))
  (pss_cons (ps_for PassesOwn.never rfl (piK_list (K := K) (pv 4)) (pg_name (i := 2) nd rfl (Or.inl rfl)) (pss_cons (ps_set (i := 5) nd rfl (Or.inl rfl) (pe_op (op_bin T.fm_self M__or__.mt M__or__.ok (hr.mono (by decide)) M__or__.b pass0) (pv 5) (pv 2)))
  (pss_one (ps_if (PW.pt (pw_or (pt_not (pt_cmpR (op_cmp M__le__.mt M__le__.ok (hr.mono (by decide)) M__le__.b pass0) (pv 2) (pv 1) (nomark _))) (pw_or1 (pt_cmpR op_ne (pe_callB (call_lenO M__len__.mt M__len__.ok (hr.mono (by decide)) M__len__.b pass0) (by rfl) T.b_len PySem.boot_len (pa_cons (pv 2) pa_nil)) pe_int (nomark _))))) (pss_one (ps_ret pe_bl)) pss_nil))))
  (pss_cons (ps_if (PW.pt (pw_or (pt_not (pt_cmpR (op_cmp M__le__.mt M__le__.ok (hr.mono (by decide)) M__le__.b pass0) (pv 5) (pv 1) (nomark _))) (pw_or1 (pt_cmpR op_ne (pe_cmpR (op_cmp M__eq__.mt M__eq__.ok (hr.mono (by decide)) M__eq__.b pass0) (pv 5) (pv 1) (nomark _)) (pe_cmpR op_eq (pe_prop (pv 1) T.c_FlagMember Prest.mt Prest.ok (hr.mono (by decide)) Prest.b .nil pass0 rfl) pe_int (nomark _)) (nomark _))))) (pss_one (ps_ret pe_bl)) pss_nil)
  (pss_cons (ps_for PassesOwn.never rfl (piK_tup (K := K) (pe_prop (pv 0) T.c_Kind Pall_names.mt Pall_names.ok (hr.mono (by decide)) Pall_names.b .nil pass0 rfl)) (pg_name (i := 3) nd rfl (Or.inl rfl)) (pss_cons (ps_set (i := 6) nd rfl (Or.inl rfl) (pe_subO M__getitem__.mt T.k_getfn M__getitem__.ok (hr.mono (by decide)) M__getitem__.b pass0 (pv 0) (pv 3)))
  (pss_cons (ps_if (PW.pt (pw_or (pt_not (pt_cmpR (op_cmp M__le__.mt M__le__.ok (hr.mono (by decide)) M__le__.b pass0) (pv 1) (pe_meth (pv 1) T.c_FlagMember Mwith_bit.mt Mwith_bit.ok (hr.mono (by decide)) Mwith_bit.b .nil pass0 (pa_cons (pv 3) pa_nil)) (nomark _))) (pw_or1 (pt_not (pt_cmpR (op_cmp M__le__.mt M__le__.ok (hr.mono (by decide)) M__le__.b pass0) (pv 6) (pe_meth (pv 1) T.c_FlagMember Mwith_bit.mt Mwith_bit.ok (hr.mono (by decide)) Mwith_bit.b .nil pass0 (pa_cons (pv 3) pa_nil)) (nomark _)))))) (pss_one (ps_ret pe_bl)) pss_nil)
  (pss_one (ps_if (PW.pt (pw_or (pt_not (pt_cmpR (op_cmp M__le__.mt M__le__.ok (hr.mono (by decide)) M__le__.b pass0) (pe_meth (pv 1) T.c_FlagMember Mwithout.mt Mwithout.ok (hr.mono (by decide)) Mwithout.b .nil pass0 (pa_cons (pv 3) pa_nil)) (pv 1) (nomark _))) (pw_or1 (pt_cmpR op_ne (pe_callB (call_lenO M__len__.mt M__len__.ok (hr.mono (by decide)) M__len__.b pass0) (by rfl) T.b_len PySem.boot_len (pa_cons (pe_op (op_bin T.fm_self M__and__.mt M__and__.ok (hr.mono (by decide)) M__and__.b pass0) (pe_meth (pv 1) T.c_FlagMember Mwithout.mt Mwithout.ok (hr.mono (by decide)) Mwithout.b .nil pass0 (pa_cons (pv 3) pa_nil)) (pv 6)) pa_nil)) pe_int (nomark _))))) (pss_one (ps_ret pe_bl)) pss_nil)))))
  (pss_one (ps_ret pe_bl))))))), ?_⟩), F.bindsN fun _ _ _ _ _ _ us hl => match us, hl with | [_, _], _ => rfl, F.kp, T.m__law_parts_right⟩⟩
  · obtain ⟨_, h, _⟩ := h
    obtain ⟨κ, p, n, rows, bd, rfl, d, hp, hn, rfl⟩ := h
    rfl
  · obtain ⟨Pz, h, k⟩ := h
    obtain ⟨κ, p, n, rows, bd, rfl, d, hp, hn, rfl⟩ := h
    have wf := d.wf
    refine q_par (P1 := PartsV K κ (takenL n (singlesL rows))) (P2 := fun _ => IsMb K κ 0) (gv_parts d hn (gm_var rfl hp)) (fun v H1 e1 hv => gv_callK (n := 0) (d.mono e1) (by show 0 < 2 ^ 40; decide) (Or.inl (Nat.zero_or _)) (ev_var rfl) ev_c) fun v u H1 H2 e1 hv e2 hu => ?_
    obtain ⟨lp, ys, rfl, hl, hy⟩ := hv
    obtain ⟨t0, rfl, ht⟩ := hu
    have hall : ∀ b ∈ takenL n (singlesL rows), lt40 b ∧ Sub b n ∧ pc b = 1 := fun b hb => taken_bit hb
    have hsum := taken_sum n (singlesL rows)
    have hrest : restOf rows n = (n : Int) - (orL (takenL n (singlesL rows)) : Nat) := by
      unfold restOf
      rw [hsum]
    generalize takenL n (singlesL rows) = bs at hy hall hrest
    have hsub : ∀ i, Sub (orL (bs.take i)) n := fun i => orL_sub fun x hx => (hall x (List.mem_of_mem_take hx)).2.1
    have hlt : ∀ i, lt40 (orL (bs.take i)) := fun i => orL_lt fun x hx => (hall x (List.mem_of_mem_take hx)).1
    refine q_forL (ev_var rfl) (sq_of (e2 lp _ hl)) (fun i σ' H' => Ex H2 H' ∧ ∃ o2 t, σ' = [some (.ref κ), some (.ref p), o2, none, some (.ref lp), some (.ref t), none] ∧ Mem K H' t κ (orL (bs.take i))) (fun H3 e3 => ⟨e3, none, t0, rfl, ht.mono e3⟩) (fun i σ' H' _ q => sq_of (q.1 lp _ (e2 lp _ hl))) (fun i x σ' H' hx q => ?_) fun σ' H' q => ?_
    · obtain ⟨e3, o2, t, rfl, ht⟩ := q
      have e0 := (e1.trans e2).trans e3
      obtain ⟨b, r, hb, rfl, hr⟩ := (hy.mono (e2.trans e3)).at hx
      obtain ⟨b1, b2, b3⟩ := hall b (List.mem_of_getElem? hb)
      refine g_name ?_
      refine q_asgG (gv_ownM (d.mono e0) (hlt i) b1 (gm_var rfl ht) (gm_var rfl hr)) fun v H4 e4 hv => ?_
      obtain ⟨t2, rfl, ht2⟩ := hv
      have d4 := d.mono (e0.trans e4)
      refine s_when (b := false) (et_is (et_or (et_not (et_test (ev_own d4 b1 hn (gm_var rfl (hr.mono e4)) (gm_var rfl (hp.mono (e0.trans e4)))))) fun _ => et_test (ev_op (ev_lenM d4 b1 (gm_var rfl (hr.mono e4))) ev_c (rv_ne rfl))) (or_no ((leB_iff _ _).mpr b2) (ne_no (by rw [b3]; rfl)))) (fun z => nomatch z) fun _ H5 e5 => ⟨(e3.trans e4).trans e5, _, t2, rfl, ?_⟩
      rw [orL_take _ i b hb]
      exact ht2.mono e5
    · obtain ⟨e3, o2, t, rfl, ht⟩ := q
      rw [hy.1, List.take_length] at ht
      have ho := hlt bs.length
      have hs := hsub bs.length
      rw [List.take_length] at ho hs
      have e0 := (e1.trans e2).trans e3
      have d3 := d.mono e0
      refine q_when (b := false) (et_is (et_or (et_not (et_test (ev_own d3 ho hn (gm_var rfl ht) (gm_var rfl (hp.mono e0))))) fun _ => et_test (ev_op (ev_own d3 ho hn (gm_var rfl ht) (gm_var rfl (hp.mono e0))) (ev_op (ev_restM d3 hn (gm_var rfl (hp.mono e0))) ev_c (rv_eq rfl)) (rv_ne rfl))) (or_no ((leB_iff _ _).mpr hs) (ne_no (congrArg V.bl (decide_eq_decide.mpr ?_))))) (fun z => nomatch z) fun _ H4 e4 => ?_
      · rw [hrest]
        constructor
        · intro h
          exact congrArg V.int (by omega)
        · intro h
          have := V.int.inj h
          omega
      have e04 := e0.trans e4
      have d4 := d.mono e04
      refine q_forGT (xs := rows.map fun r => V.str r.1) (gv_prop (ev_var rfl) d4.k (spg fun H5 e5 => ⟨κ, rows, bd, rfl, (d4.mono e5).k, wf, rfl⟩)) (fun H5 i σ' H' => Ex H5 H' ∧ ∃ o3 o6, σ' = [some (.ref κ), some (.ref p), o2, o3, some (.ref lp), some (.ref t), o6]) (fun H5 i σ' H' q => q.1) (fun H5 e5 => ⟨Ex.refl _, none, none, rfl⟩) (fun H5 i x σ' H' e5 hx q => ?_) fun H5 σ' H' e5 q => ?_
      · obtain ⟨e6, o3, o6, rfl⟩ := q
        rw [List.getElem?_map] at hx
        obtain ⟨r, hr, rfl⟩ := Option.map_eq_some_iff.mp hx
        have hz : r.1 ∈ rows.map (·.1) := List.mem_map.mpr ⟨r, List.mem_of_getElem? hr, rfl⟩
        obtain ⟨r2, hr2, hv⟩ := valOf_mem hz
        have hvl : lt40 (valOf rows r.1) := by
          rw [hv]
          exact wf.vals r2 hr2
        have e06 := (e04.trans e5).trans e6
        have d6 := d.mono e06
        refine g_name ?_
        refine q_asgG (gv_subK d6 hz (ev_var rfl) (ev_var rfl)) fun v H7 e7 hv7 => ?_
        obtain ⟨q, rfl, hq⟩ := hv7
        have e07 := e06.trans e7
        have d7 := d.mono e07
        have wb : ∀ {H8 : Hp} {σ : L2.St}, Ex H7 H8 → σ[1]? = some (some (.ref p)) → σ[3]? = some (some (.str r.1)) → Gv (tMeth (C_FlagMember K) "with_bit" (spOneZ K fun κ n v => IsMb K κ (n ||| v)) [] E0 (tVar 1) (tCons (tVar 3) tNil)) σ H8 (IsMb K κ (n ||| valOf rows r.1)) := fun e h1 h3 => gv_zM (d7.mono e) hn hz (fun _ _ _ => rfl) (gm_var h1 (hp.mono (e07.trans e))) (ev_var h3)
        have wo : ∀ {H8 : Hp} {σ : L2.St}, Ex H7 H8 → σ[1]? = some (some (.ref p)) → σ[3]? = some (some (.str r.1)) → Gv (tMeth (C_FlagMember K) "without" (spOneZ K fun κ n v => IsMb K κ (andn n v)) [] E0 (tVar 1) (tCons (tVar 3) tNil)) σ H8 (IsMb K κ (andn n (valOf rows r.1))) := fun e h1 h3 => gv_zM (d7.mono e) hn hz (fun _ _ _ => rfl) (gm_var h1 (hp.mono (e07.trans e))) (ev_var h3)
        refine q_when (b := false) (et_is (et_or (et_not (et_test (ev_own d7 hn (lt_or hn hvl) (gm_var rfl (hp.mono e07)) (wb (Ex.refl _) rfl rfl)))) fun _ => et_not (et_test (ev_own d7 hvl (lt_or hn hvl) (gm_var rfl hq) (wb (Ex.refl _) rfl rfl)))) (or_no ((leB_iff _ _).mpr (sub_left _ _)) (by rw [(leB_iff _ _).mpr (sub_right _ _)]; rfl))) (fun z => nomatch z) fun _ H8 e8 => ?_
        have d8 := d7.mono e8
        refine s_when (b := false) (et_is (et_or (et_not (et_test (ev_own d8 (lt_andn hn) hn (wo e8 rfl rfl) (gm_var rfl (hp.mono (e07.trans e8)))))) fun _ => et_test (ev_op (ev_lenM d8 (lt_and (lt_andn hn)) (gv_ownM d8 (lt_andn hn) hvl (wo e8 rfl rfl) (gm_var rfl (hq.mono e8)))) ev_c (rv_ne rfl))) (or_no ((leB_iff _ _).mpr (andn_sub _ _)) (ne_no (by rw [andn_and, pc_zero]; rfl)))) (fun z => nomatch z) fun _ H9 e9 => ⟨((e6.trans e7).trans e8).trans e9, _, _, rfl⟩
      · obtain ⟨e6, o3, o6, rfl⟩ := q
        exact s_ret ev_c fun H7 e7 => k _ H7 (((e04.trans e5).trans e6).trans e7) rfl

end
end EC
end
section
set_option Elab.async false
set_option linter.all false
set_option maxRecDepth 100000
set_option maxHeartbeats 2000000
namespace EC
open PySem PySem.Spec PyProof.Rows L2 Evl
section
variable {P : Program} {w : World} {K : PySem.W.Frag} {mg : Str → Option Value} {base : Heap}
section
variable {σ : L2.St} {H : Hp} {ta te tl : TE} {D : Ends} {tz : TS}
theorem q_lcR {n i jv : Nat} {vs : List Nat} {tn : TA} (hn : n ≤ 1000) (h : EvA tn σ H [.int (n : Int)]) (Pv : Addr → Nat → Hp → Prop) (h0 : ∀ Dl H1, Ex H H1 → H1 Dl = none → Pv Dl 0 (upd H1 Dl (.lst []))) (hw : ∀ x, wipe ((wipe σ vs).set jv (some x)) vs = wipe σ vs)
    (hs : ∀ (Dl : Addr) (i : Nat) H', i < n → Pv Dl i H' → te ((wipe σ vs).set jv (some (.int (i : Int)))) H' fun y H4 => ∃ acc, H4 Dl = some (.lst acc) ∧ acc.length < sizeLine ∧ Pv Dl (i + 1) (upd H4 Dl (.lst (acc ++ [y]))))
    (k : ∀ Dl H', Pv Dl n H' → tz D (σ.set i (some (.ref Dl))) H') : tSeq (tAsg (tLc (iRng1 tn) (gName jv) tYes te vs) (gName i)) tz D σ H := by
  refine h H (Ex.refl H) _ fun H1 e1 => ⟨(n : Int), rfl, by omega, by omega, fun Dl hD => ?_⟩
  rw [Int.toNat_natCast]
  refine lc_it walk_range (Pv Dl) (h0 Dl H1 e1 hD) (fun _ _ _ _ => trivial) (fun m x H2 H3 hi p y => ?_) fun H2 p => k Dl H2 p
  obtain ⟨rfl, rfl⟩ := y
  have e0 : (0 : Int) + (m : Int) = (m : Int) := Int.zero_add _
  have h3 := hs Dl m H3 hi p
  rw [← e0] at h3
  exact ⟨hw _, h3⟩
theorem q_tupCall {i j : Nat} {tb : TE} {tc : TA} {sp : Sp} {E : XK} {vs : List V} {u : V} (G : V → Hp → Prop) (h : EvA tc σ H vs) (hs : ∀ H1, Ex H H1 → ∀ Q : VK, (∀ v H2, G v H2 → Q v H2) → sp vs H1 Q E) (hb : ∀ v H2, G v H2 → Ev tb σ H2 u)
    (k : ∀ v H2 H3, G v H2 → Ex H2 H3 → tz D ((σ.set i (some v)).set j (some u)) H3) : tSeq (tAsg (tTup (tCons (tCall sp [] E tc) (tCons tb tNil))) (gTup K 2 (gCons (gName i) (gCons (gName j) gNil)))) tz D σ H := by
  refine h H (Ex.refl H) _ fun H1 e1 => ?_
  show sp (vs ++ []) H1 _ E
  rw [List.append_nil]
  exact hs H1 e1 _ fun v H2 g => hb v H2 g H2 (Ex.refl H2) _ fun H3 e3 => ⟨sz_of (by show 2 ≤ 100000; decide), fun p hp => g_two (st_of upd_same) (k v H2 _ g (e3.trans (Ex.new hp)))⟩
theorem ca_one {sp : Sp} {E : XK} {tc : TA} {vs : List V} {Q : List V → Hp → Prop} (h : EvA tc σ H vs) (k : ∀ H1, Ex H H1 → sp vs H1 (fun x H2 => Q [x] H2) E) : tCons (tCall sp [] E tc) tNil σ H Q := h H (Ex.refl H) _ fun H1 e1 => by
  show sp (vs ++ []) H1 _ E
  rw [List.append_nil]
  exact k H1 e1
theorem q_appG {l : Addr} {xs : List V} {P : V → Hp → Prop} (hl : H l = some (.lst xs)) (ha : Ev ta σ H (.ref l)) (h : Gv te σ H P) (hz : xs.length < 100000) (k : ∀ v H1, Ex H H1 → P v H1 → tz D σ (upd H1 l (.lst (xs ++ [v])))) :
    tSeq (tDrop (tBM K "list" rAppend ta (tCons te tNil))) tz D σ H := by
  refine ha H (Ex.refl H) _ fun H1 e1 => ⟨Or.inl ⟨rfl, xs, sq_of (e1 l _ hl)⟩, h H1 e1 _ fun v H2 e2 p => ?_⟩
  exact ⟨l, xs, v, rfl, rfl, e2 l _ (e1 l _ hl), sz_lt hz, k v H2 (e1.trans e2) p⟩
theorem gm_at {κ l : Addr} {ys : List V} {bs : List Nat} {j b : Nat} (ha : Ev ta σ H (.ref l)) (hl : H l = some (.lst ys)) (hy : PartsAt K H κ ys bs) (hb : bs[j]? = some b) : Gv (tOp (rIxL K) ta (tC (.int (j : Int)))) σ H (IsMb K κ b) := by
  obtain ⟨q, h1, h2⟩ := hy.2 j b hb
  exact Gv.imp (Ev.gv (ev_op ha ev_c (rv_ixL (sq_of hl) (at_nat h1)))) fun v H2 e hv => ⟨q, hv, h2.mono e⟩
end
theorem PartsAt.del {H : Hp} {κ a : Addr} {ys zs : List V} {bs : List Nat} (h : PartsAt K H κ ys bs) (g : H a = some (.lst zs)) : PartsAt K (EC.del a H) κ ys bs := ⟨h.1, fun i b hb => by
  obtain ⟨q, h1, dx, x, y, z, h2⟩ := h.2 i b hb
  refine ⟨q, h1, dx, x, y, z, ?_⟩
  rw [del_ne H (fun e => ?_)]
  · exact h2
  · subst e
    rw [h2] at g
    cases g⟩
theorem kp_del {H : Hp} {a x : Addr} {ys : List V} {o : HO} (g : H a = some (.lst ys)) (h : H x = some o) (n : ∀ zs, o ≠ .lst zs) : EC.del a H x = some o := by
  rw [del_ne]
  · exact h
  · intro e
    subst e
    rw [h] at g
    cases g
    exact n _ rfl
theorem sqt_del {H : Hp} {a x : Addr} {ys xs : List V} (g : H a = some (.lst ys)) (h : SqT K H x xs) : SqT K (EC.del a H) x xs := by
  rcases h with (h | ⟨o, h⟩) | h
  · exact Or.inl (Or.inl (kp_del g h fun zs e => by cases e))
  · exact Or.inl (Or.inr ⟨o, kp_del g h fun zs e => by cases e⟩)
  · exact Or.inr h
theorem KindAt.del {H : Hp} {a κ : Addr} {ys : List V} {rows : List Row} {bd : Str} (h : KindAt K H κ rows bd) (g : H a = some (.lst ys)) : KindAt K (EC.del a H) κ rows bd := by
  obtain ⟨dx, r, nm, bs, st, ln, hk⟩ := h
  obtain ⟨dr, t, d, x, b, c, e, zs, hq⟩ := hk.rec_
  exact ⟨dx, r, nm, bs, st, ln, ⟨kp_del g hk.ins (fun zs e => by cases e), dr, t, d, x, b, c, e, zs, kp_del g hq.ins (fun zs e => by cases e), sqt_del g hq.tup, hq.rws.del g, kp_del g hq.fst (fun zs e => by cases e), kp_del g hq.atr (fun zs e => by cases e), kp_del g hq.mth (fun zs e => by cases e), sqt_del g hq.rul, sqt_del g hq.mis⟩⟩
/-- all below 2 ^ 40 -/
def All40 (bs : List Nat) : Prop := ∀ b ∈ bs, lt40 b
def spLaw (K : PySem.W.Frag) : Sp := fun vs H Q _ => ∃ (a : Addr) (ns : List Int), vs = [.ref a] ∧ SqL K H a (ns.map V.int) ∧ ns.length ≤ 63 ∧ ∀ H', Q (.bl true) H'
/-- behind the making of the members -/
structure Mbs (K : PySem.W.Frag) (S H' : Hp) (a s κ Dl : Addr) (ns : List Int) (k i : Nat) (rows : List Row) (bd : Str) : Prop where
  sp : Spot K S H' a s ns k
  ex : ∃ ys bs, H' Dl = some (.lst ys) ∧ PartsAt K H' κ ys bs ∧ bs.length = i ∧ All40 bs
  no : S Dl = none
  ne : Dl ≠ s
  kd : Kd K S κ rows bd
theorem Mbs.snoc {S H1 : Hp} {a s κ Dl p : Addr} {ns : List Int} {k i b : Nat} {rows : List Row} {bd : Str} {ys : List V} {bs : List Nat} (hs : S s = none) (e : Ex S H1) (hc : SqL K S a (ns.map V.int)) (hl : ns.length ≤ 100) (h1 : H1 s = some (.lst [vN k])) (hd : H1 Dl = some (.lst ys)) (hy : PartsAt K H1 κ ys bs) (hb : bs.length = i) (h4 : All40 bs) (hp : Mem K H1 p κ b) (hb4 : lt40 b)
    (no : S Dl = none) (ne : Dl ≠ s) (kd : Kd K S κ rows bd) : Mbs K S (upd H1 Dl (.lst (ys ++ [.ref p]))) a s κ Dl ns k (i + 1) rows bd := by
  refine ⟨⟨hs, Ex.mut e no, hc, by rw [upd_ne ne.symm]; exact h1, hl⟩, ⟨ys ++ [.ref p], bs ++ [b], upd_same, ((hy.del hd).mono (ex_del_upd _ _ _)).snoc ?_, by rw [List.length_append, hb]; rfl, fun x hx => ?_⟩, no, ne, kd⟩
  · obtain ⟨dx, x, y, z, h⟩ := hp
    refine ⟨dx, x, y, z, ?_⟩
    rw [upd_ne (fun e => ?_)]
    · exact h
    · subst e
      rw [h] at hd
      cases hd
  · rcases List.mem_append.mp hx with h | h
    · exact h4 x h
    · rw [List.mem_singleton.mp h]
      exact hb4
theorem number_at {S H : Hp} {c s a : Addr} {ns : List Int} {k : Nat} {xs : List V} {rows : List Row} {bd : Str} {E : XK} (h : Spot K S H c s ns k) (hk : k ≤ 1000) (ha : S a = some (.lst xs)) (hr : RowsAt S xs rows) (hne : rows ≠ []) (wf : Wf rows) (Q : VK)
    (q : ∀ (v : Nat) H', Spot K S H' c s ns (k + 1) → lt40 v → Reads rows bd v → Q (vN v) H') : spNumber K [.ref c, .ref s, .ref a, .str bd] H Q E := ⟨c, s, a, ns, k, S, xs, rows, bd, rfl, h, hk, ha, hr, hne, wf, q⟩
theorem rc_min {H : Hp} {i j : Int} : RC (fun xs H Q => ∃ i j, xs = [V.int i, V.int j] ∧ Q (.int (if j < i then j else i)) H) [.int i, .int j] H (.int (if j < i then j else i)) := fun H1 e Q q => ⟨i, j, rfl, q H1 (Ex.refl _)⟩
theorem sc_law : FnScope ["_law_script", "_law_spot", "_law_turn", "_law_flag_here", "_law_some", "_law_p", "_law_rows_here", "_law_border", "_law_q", "_law_k", "_law_r"] ["_law_script"] (defScope s_law) := ⟨rfl, rfl, rfl, by decide +kernel, rfl, by decide +kernel, by decide +kernel⟩
theorem fn_law (T : Tx P w K mg) (Z : Tp K) {fd : FuncData} (F : FnP K "law" "law" s_law [] (He.ga K "law") fd) : Fn P w K mg base 11 "law" ["_law_script"] (spLaw K) fd := by
  obtain ⟨fdG_law_flag, G_law_flag⟩ := fn__law_flag (base := base) T
  obtain ⟨fdG_law_number, G_law_number⟩ := fn__law_number (base := base) T
  obtain ⟨fdG_law_rows, G_law_rows⟩ := fn__law_rows (base := base) T
  obtain ⟨fdG_law_three_right, G_law_three_right⟩ := fn__law_three_right (base := base) T
  obtain ⟨fdG_law_two_right, G_law_two_right⟩ := fn__law_two_right (base := base) T
  obtain ⟨fdM__or__, M__or__⟩ := me_FlagMember_or (base := base) T
  obtain ⟨fdO__call__, O__call__⟩ := me_Kind_call (base := base) T
  obtain ⟨fdG_law_parts_right, G_law_parts_right⟩ := fn__law_parts_right (base := base) T Z
  have nd := sc_law.nd
  refine ⟨F.ok sc_law (fun vs H Q E h => ?_) (fun cdv A outer s H vs Q E hr h => ⟨_, PSs.nox ((pss_cons (ps_set (i := 1) nd rfl (Or.inr rfl) (pe_lst (pa_cons pe_int pa_nil)))
  (pss_cons (ps_for PassesOwn.never rfl (pi_range1 (by rfl) T.b_range (pa_cons (pe_op op_add pe_int (pe_callB (call_min2 rfl) (by rfl) T.b_min bo_min (pa_cons pe_int (pa_cons (pe_callB (callK_len (K := K)) (by rfl) T.b_len PySem.boot_len (pa_cons (pv 0) pa_nil)) pa_nil)))) pa_nil)) (pg_name (i := 2) nd rfl (Or.inl rfl)) (pss_cons (ps_asg (pe_tup (pa_cons (pe_call G_law_rows.ok (hr.mono (by decide)) rfl G_law_rows.m G_law_rows.kp G_law_rows.b .nil pass0 (pa_cons (pv 0) (pa_cons (pv 1) pa_nil))) (pa_cons (pe_ix (ixK_list (K := K)) (pe_lst (pa_cons pe_str (pa_cons pe_str (pa_cons pe_str (pa_cons pe_str pa_nil))))) (pe_op op_mod (pv 2) pe_int) (fun _ _ => rfl)) pa_nil))) (pgK_tup (K := K) (n := 2) rfl (pgs_cons (pg_name (i := 6) nd rfl (Or.inr rfl)) (pgs_cons (pg_name (i := 7) nd rfl (Or.inr rfl)) pgs_nil))))
  (pss_cons (ps_set (i := 3) nd rfl (Or.inr rfl) (pe_call G_law_flag.ok (hr.mono (by decide)) rfl G_law_flag.m G_law_flag.kp G_law_flag.b .nil pass0 (pa_cons (pv 6) (pa_cons (pv 7) pa_nil))))
  (pss_cons (ps_setLc (i := 4) (own := [("_law_k", 9)]) rfl nd rfl rfl (sw_true rfl rfl rfl (by decide +kernel)) (pi_range1 (by rfl) T.b_range (pa_cons pe_int pa_nil)) (blkOk_by (N := ["_law_script", "_law_spot", "_law_turn", "_law_flag_here", "_law_some", "_law_p", "_law_rows_here", "_law_border", "_law_q", "_law_k", "_law_r"]) (sc := defScope s_law) (by decide +kernel)) (fun _ _ _ _ _ => (pg_name (i := 9) nd rfl (Or.inl rfl))) (fun _ _ _ _ _ => pts_nil) (fun _ _ _ _ _ => (pe_callM (pv 3) T.k_call (raw0 O__call__.ok O__call__.b) (hr.mono (by decide)) pass0 (pa_cons (pe_call G_law_number.ok (hr.mono (by decide)) rfl G_law_number.m G_law_number.kp G_law_number.b .nil pass0 (pa_cons (pv 0) (pa_cons (pv 1) (pa_cons (pv 6) (pa_cons (pv 7) pa_nil))))) pa_nil))))
  (pss_cons (ps_expr (pe_bm PySem.F.plainAttrs_list PySem.F.slot_list_append PySem.F.type_list_append mt_append (pv 4) (pa_cons (pe_op (op_bin T.fm_self M__or__.mt M__or__.ok (hr.mono (by decide)) M__or__.b pass0) (pe_ix (ixK_list (K := K)) (pv 4) pe_int (fun _ _ => rfl)) (pe_ix (ixK_list (K := K)) (pv 4) pe_int (fun _ _ => rfl))) pa_nil)))
  (pss_one (ps_for PassesOwn.never rfl (piK_list (K := K) (pv 4)) (pg_name (i := 5) nd rfl (Or.inl rfl)) (pss_cons (ps_if (pt_not (pt_val (pe_call G_law_parts_right.ok (hr.mono (by decide)) rfl G_law_parts_right.m G_law_parts_right.kp G_law_parts_right.b .nil pass0 (pa_cons (pv 3) (pa_cons (pv 5) pa_nil))))) (pss_one (ps_ret pe_bl)) pss_nil)
  (pss_one (ps_for PassesOwn.never rfl (piK_list (K := K) (pv 4)) (pg_name (i := 8) nd rfl (Or.inl rfl)) (pss_cons (ps_if (pt_not (pt_val (pe_call G_law_two_right.ok (hr.mono (by decide)) rfl G_law_two_right.m G_law_two_right.kp G_law_two_right.b .nil pass0 (pa_cons (pv 5) (pa_cons (pv 8) pa_nil))))) (pss_one (ps_ret pe_bl)) pss_nil)
  (pss_one (ps_for PassesOwn.never rfl (piK_list (K := K) (pv 4)) (pg_name (i := 10) nd rfl (Or.inl rfl)) (pss_one (ps_if (pt_not (pt_val (pe_call G_law_three_right.ok (hr.mono (by decide)) rfl G_law_three_right.m G_law_three_right.kp G_law_three_right.b .nil pass0 (pa_cons (pv 5) (pa_cons (pv 8) (pa_cons (pv 10) pa_nil)))))) (pss_one (ps_ret pe_bl)) pss_nil)))))))))))))))
  (pss_one (ps_ret pe_bl))))), ?_⟩), F.bindsN fun _ _ _ _ _ _ us hl => match us, hl with | [_], _ => rfl, F.kp, T.m_law⟩
  · obtain ⟨a, ns, rfl, ha, hl, k⟩ := h
    rfl
  · obtain ⟨a, ns, rfl, ha, hl, k⟩ := h
    refine q_asgL (el_lst (ea_cons ev_c ea_nil) (by show 1 ≤ 100000; decide)) fun s H1 hs e1 hs1 => ?_
    have sp0 : Spot K H H1 a s ns 0 := ⟨hs, e1, ha, hs1, by omega⟩
    refine q_forR1 (n := ((2 + min 8 ns.length : Nat) : Int)) (ea_cons (ev_is (ev_op ev_c (ev_cb2 ev_c (ev_len (ev_var rfl) (ex_l e1 ha)) (rc_min (i := 8))) rv_I0) ?_) ea_nil) (by omega) (fun i σ' H' => i ≤ 10 → ∃ k o2 o3 o4 o5 o6 o7 o8 o10, Spot K H H' a s ns k ∧ k ≤ 14 * i ∧ σ' = [some (.ref a), some (.ref s), o2, o3, o4, o5, o6, o7, o8, none, o10])
      (fun H2 e2 _ => ⟨0, _, _, _, _, _, _, _, _, sp0.mono e2, Nat.le_refl _, rfl⟩) (fun i σ' H' hi q => ?_) fun σ' H' q => ?_
    · rw [List.length_map]
      refine congrArg V.int ?_
      split <;> omega
    · obtain ⟨k0, o2, o3, o4, o5, o6, o7, o8, o10, sp, hk, rfl⟩ := q (by omega)
      obtain ⟨bd, hbd⟩ : ∃ bd, four[i % 4]? = some bd := ⟨_, List.getElem?_eq_getElem (show i % 4 < 4 by omega)⟩
      have hb4 : bd ∈ four := List.mem_of_getElem? hbd
      have hbv : (four.map V.str)[i % 4]? = some (.str bd) := by rw [List.getElem?_map, hbd]; rfl
      refine q_tupCall (u := .str bd) (fun v H2 => ∃ l xs rows k' S', v = .ref l ∧ Ex H S' ∧ Spot K S' H2 a s ns k' ∧ k' ≤ k0 + 10 ∧ S' l = some (.lst xs) ∧ RowsAt S' xs rows ∧ Wf rows ∧ rows ≠ []) (ea_cons (ev_var rfl) (ea_cons (ev_var rfl) ea_nil))
        (fun H2 e2 Q2 q2 => ⟨a, s, ns, k0, H, rfl, sp.mono e2, by omega, fun l xs rows k' S' H' h1 h2 h3 h4 h5 h6 h7 => q2 _ _ ⟨l, xs, rows, k', S', rfl, h1, h2, h3, h4, h5, h6, h7⟩⟩)
        (fun v H2 _ => ev_opL1 (xs := four.map V.str) (el_lst (ea_cons ev_c (ea_cons ev_c (ea_cons ev_c (ea_cons ev_c ea_nil)))) (by show 4 ≤ 100000; decide)) (fun H3 _ => ev_is (ev_op (ev_var rfl) ev_c (rv_I (by decide))) (show V.int ((i : Int) % 4) = vN (i % 4) from rfl)) fun p H3 hp _ => rv_ixL (sq_of hp) (at_nat hbv)) fun v H2 H3 hv e3 => ?_
      obtain ⟨l, xs, rows, k1, S, rfl, eS, sp1, hk1, hSl, hr, wf, hne⟩ := hv
      have sp3 := sp1.mono e3
      refine q_asgG (gv_call (ea_cons (ev_var rfl) (ea_cons (ev_var rfl) ea_nil)) (spg fun H4 e4 => ⟨l, xs, rows, bd, rfl, sq_of ((sp3.mono e4).ex l _ hSl), hr.mono (sp3.mono e4).ex, wf, hb4, rfl⟩)) fun v H4 e4 hv => ?_
      obtain ⟨κ, rfl, hκ⟩ := hv
      have sp4 := (sp3.mono e4).full
      have eS4 : Ex S (del s H4) := (sp3.mono e4).sub
      have kd : Kd K (del s H4) κ rows bd := ⟨hκ.del sp4.at_, wf⟩
      refine q_lcR (n := 4) (by decide) (ea_cons ev_c ea_nil) (fun Dl j H' => Mbs K (del s H4) H' a s κ Dl ns (k1 + j) j rows bd) (fun Dl H5 e5 hD => ⟨⟨sp4.none_, Ex.mut (sp4.ex.trans e5) (fresh_back (sp4.ex.trans e5) hD), sp4.cells, by rw [upd_ne (ne_none (e5 s _ sp4.at_) hD)]; exact e5 s _ sp4.at_, sp4.le⟩, ⟨[], [], upd_same, PartsAt.nil _ _ _, rfl, fun b h => by cases h⟩, fresh_back (sp4.ex.trans e5) hD, (ne_none (e5 s _ sp4.at_) hD).symm, kd⟩) (fun _ => rfl) (fun Dl j H' hj M => ?_) fun Dl H' M => ?_
      · obtain ⟨ys, bs, hD, hy, hbl, h40⟩ := M.ex
        refine ⟨_, rfl, κ, rfl, ?_⟩
        have hA : ∀ σ : L2.St, σ[0]? = some (some (.ref a)) → σ[1]? = some (some (.ref s)) → σ[6]? = some (some (.ref l)) → σ[7]? = some (some (.str bd)) → EvA (tCons (tVar 0) (tCons (tVar 1) (tCons (tVar 6) (tCons (tVar 7) tNil)))) σ H' [.ref a, .ref s, .ref l, .str bd] := fun σ h0 h1 h6 h7 => ea_cons (ev_var h0) (ea_cons (ev_var h1) (ea_cons (ev_var h6) (ea_cons (ev_var h7) ea_nil)))
        refine ca_one (hA _ ?_ ?_ ?_ ?_) fun H6 e6 => ?_
        · rfl
        · rfl
        · rfl
        · rfl
        have spf := M.sp.full
        refine number_at (spf.mono e6) (by omega) (M.sp.sub l _ (eS4 l _ hSl)) (hr.mono (eS4.trans M.sp.sub)) hne wf _ fun v H7 sp7 hv hrd => ?_
        have kd7 := M.kd.mono (M.sp.sub.trans sp7.ex)
        obtain ⟨dx, r, nm, bs2, st, ln, hk7⟩ := id kd7.k
        refine ⟨⟨dx, _, hk7.ins⟩, IsMb K κ v, ⟨κ, v, rows, bd, rfl, kd7.k, wf, hv, hrd, rfl⟩, fun u H8 e8 hu => ?_⟩
        obtain ⟨p, rfl, hp⟩ := hu
        have hDd : del s H' Dl = some (.lst ys) := by
          rw [del_ne _ M.ne]
          exact hD
        have e78 := sp7.ex.trans e8
        have hyl : ys.length ≤ 4 := by
          rw [hy.1]
          omega
        exact ⟨ys, e78 Dl _ hDd, sz_lt (by omega), Mbs.snoc sp4.none_ (M.sp.sub.trans e78) sp4.cells sp4.le (e8 s _ sp7.at_) (e78 Dl _ hDd) ((hy.del spf.at_).mono e78) hbl h40 hp hv M.no M.ne M.kd⟩
      · obtain ⟨ys, bs, hD, hy, hbl, h40⟩ := M.ex
        have kdn := M.kd.mono M.sp.ex
        obtain ⟨b0, hb0⟩ : ∃ b, bs[0]? = some b := ⟨_, List.getElem?_eq_getElem (by omega)⟩
        obtain ⟨b1, hb1⟩ : ∃ b, bs[1]? = some b := ⟨_, List.getElem?_eq_getElem (by omega)⟩
        have l0 := h40 _ (List.mem_of_getElem? hb0)
        have l1 := h40 _ (List.mem_of_getElem? hb1)
        have hyl : ys.length = 4 := by
          rw [hy.1]
          omega
        refine q_appG (P := IsMb K κ (b0 ||| b1)) hD (ev_var rfl) (gv_ownM (f := fun n m => n ||| m) kdn l0 l1 (gm_at (j := 0) (ev_var rfl) hD hy hb0) (gm_at (j := 1) (ev_var rfl) hD hy hb1)) (by omega) fun v H5 e5 hv => ?_
        obtain ⟨p, rfl, hp⟩ := hv
        have M5 := Mbs.snoc sp4.none_ (M.sp.ex.trans e5) sp4.cells sp4.le (e5 s _ M.sp.at_) (e5 Dl _ hD) (hy.mono e5) hbl h40 hp (lt_or l0 l1) M.no M.ne M.kd
        generalize upd H5 Dl (.lst (ys ++ [.ref p])) = H7 at M5
        obtain ⟨zs, cs, hZ, hz, hcl, hc40⟩ := M5.ex
        have kd7 := M5.kd.mono M5.sp.ex
        refine s_forL (ev_var rfl) (sq_of hZ) (fun _ σ' H' => Ex H7 H' ∧ ∃ o5 o8 o10, σ' = [some (.ref a), some (.ref s), some (.int (i : Int)), some (.ref κ), some (.ref Dl), o5, some (.ref l), some (.str bd), o8, none, o10]) (fun H8 e8 => ⟨e8, _, _, _, rfl⟩) (fun _ _ H8 _ q => sq_of (q.1 Dl _ hZ)) (fun j1 x1 σ1 H8 hx1 q1 => ?_) fun σ1 H8 q1 => ?_
        · obtain ⟨e8, o5, o8, o10, rfl⟩ := q1
          obtain ⟨n1, p1, hn1, rfl, hm1⟩ := (hz.mono e8).at hx1
          have g1 := hc40 _ (List.mem_of_getElem? hn1)
          refine g_name ?_
          refine q_when (b := false) (et_not (a := true) (et_B (ev_call (ea_cons (ev_var rfl) (ea_cons (ev_var rfl) ea_nil)) (spv fun H9 e9 => ⟨κ, p1, n1, rows, bd, rfl, kd7.mono (e8.trans e9), hm1.mono e9, g1, rfl⟩)))) (fun z => nomatch z) fun _ H9 e9 => ?_
          have e79 := e8.trans e9
          have hm9 := hm1.mono e9
          refine s_forL (ev_var rfl) (sq_of (e79 Dl _ hZ)) (fun _ σ' H' => Ex H9 H' ∧ ∃ o8 o10, σ' = [some (.ref a), some (.ref s), some (.int (i : Int)), some (.ref κ), some (.ref Dl), some (.ref p1), some (.ref l), some (.str bd), o8, none, o10]) (fun H10 e10 => ⟨e10, _, _, rfl⟩) (fun _ _ H10 _ q => sq_of (q.1 Dl _ (e79 Dl _ hZ))) (fun j2 x2 σ2 H10 hx2 q2 => ?_) fun σ2 H10 q2 => ?_
          · obtain ⟨e10, o8, o10, rfl⟩ := q2
            obtain ⟨n2, p2, hn2, rfl, hm2⟩ := (hz.mono (e79.trans e10)).at hx2
            have g2 := hc40 _ (List.mem_of_getElem? hn2)
            refine g_name ?_
            refine q_when (b := false) (et_not (a := true) (et_B (ev_call (ea_cons (ev_var rfl) (ea_cons (ev_var rfl) ea_nil)) (spv fun H11 e11 => ⟨p1, p2, κ, n1, n2, rows, bd, rfl, ⟨hm9.mono (e10.trans e11), hm2.mono e11, (kd7.mono ((e79.trans e10).trans e11)).k, wf, g1, g2⟩, rfl⟩)))) (fun z => nomatch z) fun _ H11 e11 => ?_
            have e911 := e10.trans e11
            have e711 := e79.trans e911
            refine s_forL (ev_var rfl) (sq_of (e711 Dl _ hZ)) (fun _ σ' H' => Ex H11 H' ∧ ∃ o10, σ' = [some (.ref a), some (.ref s), some (.int (i : Int)), some (.ref κ), some (.ref Dl), some (.ref p1), some (.ref l), some (.str bd), some (.ref p2), none, o10]) (fun H12 e12 => ⟨e12, _, rfl⟩) (fun _ _ H12 _ q => sq_of (q.1 Dl _ (e711 Dl _ hZ))) (fun j3 x3 σ3 H12 hx3 q3 => ?_) fun σ3 H12 q3 => ?_
            · obtain ⟨e12, o10, rfl⟩ := q3
              obtain ⟨n3, p3, hn3, rfl, hm3⟩ := (hz.mono (e711.trans e12)).at hx3
              have g3 := hc40 _ (List.mem_of_getElem? hn3)
              refine g_name ?_
              exact s_when (b := false) (et_not (a := true) (et_B (ev_call (ea_cons (ev_var rfl) (ea_cons (ev_var rfl) (ea_cons (ev_var rfl) ea_nil))) (spv fun H13 e13 => ⟨p1, p2, p3, κ, n1, n2, n3, rows, bd, rfl, ⟨hm9.mono ((e911.trans e12).trans e13), (hm2.mono e11).mono (e12.trans e13), (kd7.mono ((e711.trans e12).trans e13)).k, wf, g1, g2⟩, hm3.mono e13, g3, rfl⟩)))) (fun z => nomatch z) fun _ H13 e13 => ⟨e12.trans e13, _, rfl⟩
            · obtain ⟨e12, o10, rfl⟩ := q3
              exact ⟨e911.trans e12, _, _, rfl⟩
          · obtain ⟨e10, o8, o10, rfl⟩ := q2
            exact ⟨e79.trans e10, _, _, _, rfl⟩
        · obtain ⟨e8, o5, o8, o10, rfl⟩ := q1
          have sp8 := M5.sp.mono e8
          exact fun _ => ⟨k1 + 4, _, _, _, _, _, _, _, _, ⟨hs, (eS.trans eS4).trans sp8.ex, ha, sp8.at_, by omega⟩, by omega, rfl⟩
    · exact s_ret ev_c fun H5 e5 => k H5

end
end EC
end
set_option Elab.async false
set_option linter.all false
set_option maxRecDepth 100000
set_option maxHeartbeats 0
namespace EcEnd
open PySem PySem.W PySem.Calls PyProof.Rows
theorem run3 (w : World) : EcHead.RunEq2 EcHead.R EcHead.qv EC.hookE EcHead.obH 20000 EcHead.names EcHead.env0 78 11 798 1226 (some (.ref 6)) EcHead.tree1 EcHead.posB EcHead.pos0 w := byRow2 "special-get-raises" EcHead.run3_f EcHead.run3_t w
theorem facts {w : World} {K : PySem.W.Frag} {h : Heap} {mg : Str → Option Value} {f : Addr} (X : K.In h) (G : h.Ns mainGlobals mg) (hfa : mg ("law" : Str) = some (.ref f)) (c : EC.SaysE w K) :
    ∃ fd : FuncData, (∀ (s : Shared) (v : Value), BindsTo s fd ⟨[v], []⟩ [("_law_script", v)]) ∧ ∀ base : Heap, K.In base → base.Ns mainGlobals mg → L2.FnOk PySem.Challenge.pw_enumcraft_k54_whole_order_of_members w K mg base L2.CX0 11 f fd ["_law_script"] (EC.spLaw K) := by
  have T : EC.Tx PySem.Challenge.pw_enumcraft_k54_whole_order_of_members w K mg := EC.tx_of X G c (by decide +kernel) (by decide +kernel)
  have Z := EC.tp_of c
  obtain ⟨fd, F⟩ := T.f_law
  have e := hfa.symm.trans T.m_law
  cases e
  have b := L2.FunD.bindsA (ps := ["_law_script"]) F fun _ _ _ _ _ _ us hl => match us, hl with | [_], _ => rfl
  exact ⟨fd, fun s v => b s [v] rfl, fun base _ _ => (EC.fn_law (base := base) T Z F).ok⟩
end EcEnd
open PySem PySem.W PySem.Calls PyProof.Rows
theorem PySem.Challenge.cw_enumcraft_k54_whole_order_of_members_holds : PySem.Challenge.rw_enumcraft_k54_whole_order_of_members.Holds := by
  w_on; o_law
  refine EcHead.head_two (r := OpenLaw.row PySem.Challenge.rw_enumcraft_k54_whole_order_of_members) (q := EcHead.qv) (H := EC.hookE) (ob := EcHead.obH) (M := 20000) (loose := EcHead.names) (d := HandSHeadRun.topDef (OpenLaw.row PySem.Challenge.rw_enumcraft_k54_whole_order_of_members).prog 121) (kwd := []) EcHead.obH_eq
    (k := 78) (n0 := 11) (nA := 15) (nB := 798) (kA := 187) (kB := 1226) (mA := 12) (mB := 8435)
    (by kernel_rfl) (fun s => by kernel_rfl) EcHead.one EcEnd.run3 (by kernel_rfl) (by kernel_rfl) (by kernel_rfl) (by rfl) (by first | assumption | decide +kernel) (by decide +kernel) ⟨rfl, rfl, rfl, rfl, rfl, by decide +kernel⟩ ?hw ?hc
  case hw => w_witness2
  case hc =>
    refine L2.walk_ofE (l := PySem.Challenge.rw_enumcraft_k54_whole_order_of_members) (n := 63) (k := 11) (x := "_law_script") (CX := L2.CX0) rfl (by decide) (by kernel_rfl) ⟨rfl, by decide, by decide⟩ ?F (fun _ _ _ _ z => z)
    intro w mg fa h Y G hmg0
    obtain ⟨K, KX, c⟩ := Y
    have hmg : mg ("law" : PySem.Str) = some (.ref fa) := by
      have e : (HandSHeadRun.topDef (OpenLaw.row PySem.Challenge.rw_enumcraft_k54_whole_order_of_members).prog 121).name = ("law" : PySem.Str) := by kernel_rfl
      rw [← e]
      exact hmg0
    obtain ⟨fd, hb, hF⟩ := EcEnd.facts (w := w) KX G hmg c
    exact ⟨K, fd, EC.spLaw K, KX, hb, fun H a ns hl _ hS => ⟨a, ns, rfl, hS, hl, fun _ => rfl⟩, hF⟩
