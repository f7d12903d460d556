import PyProof.Rows.All
import Wide.All
import OpenK.AllK
import Wide.FinOn
import HandS.ForMost
import HandS.Exc
import HandS.TryOnly
import HandS.ExcOwn
import HandS.WordsExc
import HandS.IsInst
import HandS.SlotsOwn
import HandS.NamedTupSort
import KE.KOpsOwn
import KE.KCallOwn
import HandS.Small
import HandS.FStr
import PyProof.FString3
import PyProof.Rows.StrIntSpec
import PyProof.StrBlock2
import HandS.GenList
import PyProof.GenComp
import HandS.Defaults
import PyProof.FactsAll.list_3
import HandS.GenCall
import HandS.GenBody
import HandS.Walk
import HandS.Zip
import HandS.TupAny
import HandS.DictComp
import HandS.Lambda
import HandS.Star
import HandS.Conv
import HandS.MakeKwOnly
import HandS.EndOwn
import KE.KNestM
import PySem.Challenge.RW_allbrokers_k49_whole_reader_shapes
set_option Elab.async false
set_option linter.all false
set_option maxRecDepth 100000
set_option maxHeartbeats 4000000
/-! own operators on instances -/
namespace R49
open PySem PySem.Spec PyProof.Rows L2
section
variable {X : Cx} {CX : CXT} {C f : Addr} {n : Nat} {fd : FuncData} {ps : List Str} {sp : Sp} {E : XK}
theorem ins_inst {pins : List (Addr × Obj)} {σ : L2.St} {H : Hp} {s : Shared} {a C dx : Addr} {fs : List (Str × V)} (I : Inv X pins σ H s) (e : H a = some (.ins C dx fs)) :
    ∃ od, PySem.W.InstAt s.heap a (PySem.W.instObj C dx) C (some od) := by
  obtain ⟨mA, O, _⟩ := ins_get I.hok e
  obtain ⟨od, J, _⟩ := O.look
  exact ⟨od, J⟩
/-- x op y, both instances of the class at C -/
def rBinOwn (C : Addr) (sp : Sp) (E : XK) : R2 := fun x y H Q => ∃ a b dx dy fs gs, x = .ref a ∧ y = .ref b ∧ H a = some (.ins C dx fs) ∧ H b = some (.ins C dy gs) ∧ sp [.ref a, .ref b] H Q E
theorem op_binOwn {op : Operator} (hc : PySem.W.selfFirst X.K C = true) (hs : PySem.W.findIn X.K (.ref C) (PySem.dunder op.info.2) = some (some (.ref f))) (hf : PySem.W.isFn X.K (.ref f) = true)
    (F : FnOk X.prog X.w X.K X.mg X.base CX n f fd ps sp) (hb : Binds X.K fd ps []) (hr : Room n X.A) (hx : Passes CX X E) : OpR X (binaryOp op) (rBinOwn C sp E) := by
  intro pins s σ H x y v u Q I rx ry h
  obtain ⟨a, b, dx, dy, fs, gs, rfl, rfl, ha, hb', q⟩ := h
  cases (show v = Value.ref a from rx)
  cases (show u = Value.ref b from ry)
  obtain ⟨od, J⟩ := ins_inst I ha
  obtain ⟨od', J'⟩ := ins_inst I hb'
  obtain ⟨m, hF⟩ := I.fr
  refine PySem.W.binop_K hF I.ok.mod.kin J J'.type hc hs hf ?_
  refine wpAny_mono (run_fn (us := [.ref a, .ref b]) (vs := [.ref a, .ref b]) F hr hb .nil hx I (.cons rfl (.cons rfl .nil)) q) (fun w s' z => ?_) fun _ _ x => x
  obtain ⟨z', H', I', rz, qz⟩ := z
  exact SlX.cmpback rz ⟨z', H', I', rz, qz⟩
/-- x op i, x an instance of the class at C, i an int -/
def rBinInt (C : Addr) (sp : Sp) (E : XK) : R2 := fun x y H Q => ∃ a dx fs i, x = .ref a ∧ y = .int i ∧ H a = some (.ins C dx fs) ∧ sp [.ref a, .int i] H Q E
theorem op_binInt {op : Operator} {fo ro : Option Value} (hc : PySem.W.selfFirst X.K C = true) (hs : PySem.W.findIn X.K (.ref C) (PySem.dunder op.info.2) = some (some (.ref f))) (hf : PySem.W.isFn X.K (.ref f) = true)
    (hr0 : PySem.W.findIn X.K (.ref C) (dunderR op.info.2) = some none) (h1 : PySem.W.findIn X.K (.type "int") (PySem.dunder op.info.2) = some fo) (h2 : PySem.W.findIn X.K (.type "int") (dunderR op.info.2) = some ro) (hsub : PySem.W.subIn X.K (.type "int") (.ref C) = some false)
    (F : FnOk X.prog X.w X.K X.mg X.base CX n f fd ps sp) (hb : Binds X.K fd ps []) (hr : Room n X.A) (hx : Passes CX X E) : OpR X (binaryOp op) (rBinInt C sp E) := by
  intro pins s σ H x y v u Q I rx ry h
  obtain ⟨a, dx, fs, i, rfl, rfl, ha, q⟩ := h
  cases (show v = Value.ref a from rx)
  obtain ⟨t, rfl⟩ := ry
  obtain ⟨od, J⟩ := ins_inst I ha
  obtain ⟨m, hF⟩ := I.fr
  refine PySem.W.ksp_binT (T := "int") hF I.ok.mod.kin J rfl hc hs hf hr0 (.inl rfl) h1 h2 hsub ?_
  refine wpAny_mono (run_fn (us := [.ref a, .int i t]) (vs := [.ref a, .int i]) F hr hb .nil hx I (.cons rfl (.cons ⟨t, rfl⟩ .nil)) q) (fun w s' z => ?_) fun _ _ x => x
  obtain ⟨z', H', I', rz, qz⟩ := z
  exact SlX.cmpback rz ⟨z', H', I', rz, qz⟩
/-- x == y by the class's own def, y an instance too -/
def rEqOwn (K : PySem.W.Frag) (C : Addr) (sp : Sp) (E : XK) : R2 := fun x y H Q => ∃ a b dx dy fs gs, x = .ref a ∧ y = .ref b ∧ H a = some (.ins C dx fs) ∧ H b = some (.ins C dy gs) ∧ sp [.ref a, .ref b] H Q E
theorem op_eqOwn (hn : PySem.W.notFirst X.K C (.ref C) = true) (hs : PySem.W.findIn X.K (.ref C) "__eq__" = some (some (.ref f))) (hf : PySem.W.isFn X.K (.ref f) = true)
    (F : FnOk X.prog X.w X.K X.mg X.base CX n f fd ps sp) (hb : Binds X.K fd ps []) (hr : Room n X.A) (hx : Passes CX X E) : OpR X (compareOp .Eq) (rEqOwn X.K C sp E) := by
  intro pins s σ H x y v u Q I rx ry h
  obtain ⟨a, b, dx, dy, fs, gs, rfl, rfl, ha, hb', q⟩ := h
  cases (show v = Value.ref a from rx)
  cases (show u = Value.ref b from ry)
  obtain ⟨od, J⟩ := ins_inst I ha
  obtain ⟨od', J'⟩ := ins_inst I hb'
  obtain ⟨m, hF⟩ := I.fr
  show wpAny _ _ (richCompare .Eq (.ref a) (.ref b)) _ _ s
  refine PySem.W.cmp_K (op := .Eq) (tb := .ref C) hr.units0 hF I.ok.mod.kin J J'.type hn hs hf ?_
  refine wpAny_mono (run_fn (us := [.ref a, .ref b]) (vs := [.ref a, .ref b]) F hr hb .nil hx I (.cons rfl (.cons rfl .nil)) q) (fun w s' z => ?_) fun _ _ x => x
  obtain ⟨z', H', I', rz, qz⟩ := z
  exact SlX.cmpback rz ⟨z', H', I', rz, qz⟩
/-! ### != by object's __ne__ and the class's own __eq__ -/
theorem ne_bind (self : Value) : bindSpecial (.builtin "object.__ne__") self = pure (.builtin "object.__ne__", [self]) := by first | rfl | kernel_rfl
theorem ne_entry : entryFor table "object.__ne__" = some Builtin.«object.__ne__» := entryFor_of_tree (by kernel_rfl)
theorem ne_args (a b : Value) : argsOk "object.__ne__" ⟨[a, b], []⟩ := by unfold argsOk; kernel_rfl
theorem ne_plain : plainId "object.__ne__" = true := by decide +kernel
theorem call_ne {prog : Program} {w : World} {A : Around} {E : Value → Shared → Prop} {s : Shared} {K : PySem.W.Frag} {x C f : Addr} {b : Value} {ox : Obj} {od : Option Obj} {Q : Value → Shared → Prop} (hu : A.in1.units < cLine)
    (X : K.In s.heap) (I : PySem.W.InstAt s.heap x ox C od) (hm : PySem.W.mroIn K C (.type "object") = some true) (hs : PySem.W.findIn K (.ref C) "__eq__" = some (some (.ref f))) (hf : PySem.W.isFn K (.ref f) = true)
    (h : wpAny (model prog w) A.in1 (call (.ref f) [.ref x, b]) (fun r s' => ∃ k, r = Value.bool k ∧ Q (.bool (!k)) s') E s) : wpAny (model prog w) A (call (.builtin "object.__ne__") [.ref x, b]) Q E s := by
  have iv : PySem.W.Looks (model prog w) s.heap (isInstance (.ref x) (.type "object")) true := I.type.andThen (PySem.W.looks_mroIn X hm)
  refine wpAny_call (codeAny_call_builtin ne_plain ne_entry (@PySem.W.check_slot (model prog w) _ _ _ "object.__ne__" "object" "__ne__" (.ref x) [b] [] _ (by decide +kernel) (by decide +kernel) iv (ne_args _ _) ?_))
  show wpAny _ A.in1 (Builtin.«object.__ne__» ⟨[.ref x, b], []⟩) _ _ s
  unfold Builtin.«object.__ne__»
  refine wpAny_bind (wpAny_pure ?_)
  dsimp only
  refine wpAny_bind (wpAny_cRoomFor hu ?_)
  refine wpAny_bind (PySem.W.ifBound_K X I hs hf (wpAny_mono h (fun r s' hr => ?_) fun _ _ y => y))
  obtain ⟨k, rfl, hq⟩ := hr
  dsimp only
  refine wpAny_bind (wpAny_truthy_bool ?_)
  exact wpAny_pure hq
theorem ne_own {prog : Program} {w : World} {A : Around} {E : Value → Shared → Prop} {s : Shared} {K : PySem.W.Frag} {x C f : Addr} {b tb : Value} {ox : Obj} {od : Option Obj} {Q : Value → Shared → Prop} (hu : A.in1.units < cLine) (hu0 : A.units < cLine)
    (X : K.In s.heap) (I : PySem.W.InstAt s.heap x ox C od) (hb : PySem.W.Looks (model prog w) s.heap (typeOf b) tb) (hn : PySem.W.notFirst K C tb = true)
    (hne : PySem.W.findIn K (.ref C) "__ne__" = some (some (.builtin "object.__ne__"))) (hm : PySem.W.mroIn K C (.type "object") = some true) (hs : PySem.W.findIn K (.ref C) "__eq__" = some (some (.ref f))) (hf : PySem.W.isFn K (.ref f) = true)
    (h : wpAny (model prog w) A.in1 (call (.ref f) [.ref x, b]) (fun r s' => ∃ k, r = Value.bool k ∧ Q (.bool (!k)) s') E s) : wpAny (model prog w) A (richCompare .NotEq (.ref x) b) Q E s := by
  have one : wpAny (model prog w) A (tryCompare (.ref x) "__ne__" b) (fun r s' => ∃ v, r = some v ∧ Q v s') E s := by
    unfold tryCompare
    have sp : PySem.W.Looks (model prog w) s.heap (specialOf (.ref x) "__ne__") (some (.builtin "object.__ne__")) := I.type.andThen (PySem.W.looks_findIn X hne)
    refine wpAny_bind (NtL.csib (E := E) sp (ne_bind _) (wpAny_mono (call_ne (Q := fun v s' => ∃ k, v = Value.bool k ∧ Q (.bool k) s') hu X I hm hs hf (wpAny_mono h (fun r s' hr => ?_) fun _ _ y => y)) (fun v s' hv => ?_) fun _ _ e => e))
    · obtain ⟨k, rfl, hq⟩ := hr
      exact ⟨k, rfl, !k, rfl, hq⟩
    · obtain ⟨k, rfl, hq⟩ := hv
      exact wpAny_pure ⟨_, rfl, hq⟩
  unfold richCompare
  simp only [oneThing_ref]
  refine wpAny_holding (wpAny_bind (wpAny_cRoomFor hu0 ?_))
  refine wpAny_bind (I.type.here (wpAny_bind (hb.here ?_)))
  split
  · rename_i q
    have e : PySem.W.subIn K tb (.ref C) = some false := by
      rcases Bool.or_eq_true_iff.mp hn with e | e
      · rw [beq_iff_eq.mp e] at q; simp at q
      · exact beq_iff_eq.mp e
    refine wpAny_bind ((PySem.W.looks_subIn X e).here ?_)
    simp only [Bool.false_eq_true, if_false]
    refine wpAny_bind (wpAny_mono one (fun r s' z => ?_) fun _ _ e => e)
    obtain ⟨v, rfl, hq⟩ := z
    exact wpAny_pure hq
  · refine wpAny_bind (wpAny_pure ?_)
    simp only [Bool.false_eq_true, if_false]
    refine wpAny_bind (wpAny_mono one (fun r s' z => ?_) fun _ _ e => e)
    obtain ⟨v, rfl, hq⟩ := z
    exact wpAny_pure hq
theorem run_at' {pins : List (Addr × Obj)} {σ : L2.St} {H : Hp} {s : Shared} {A : Around} {Q : VK} {us : List Value} {ws : List V} (F : FnOk X.prog X.w X.K X.mg X.base CX n f fd ps sp) (hb : Binds X.K fd ps []) (hr : Room n A) (e0 : Env0 X.prog X.w X.K X.mg X.base A X.stack s H) (hx : Passes CX X E) (I : Inv X pins σ H s) (r : Vals ws us) (h : sp ws H Q E) :
    wpAny (model X.prog X.w) A (call (.ref f) us) (EP X pins σ Q) X.xe s := by
  have hl : (us ++ []).length = ps.length := by rw [List.append_nil, ← r.length]; exact F.len _ _ _ _ h
  have hbb := hb s us I.kIn hl
  rw [List.append_nil] at hbb
  refine wpAny_call (codeAny_mono (F.run A X.stack s H ⟨us, []⟩ us ws Q E hr e0 hbb r h) fun r s' hq => ?_)
  cases r with
  | error e => exact hx pins σ H s e s' I hq
  | ok fl =>
    cases fl with
    | ret u => exact I.after hq
    | next => exact False.elim hq
    | brk => exact False.elim hq
    | cont => exact False.elim hq
theorem op_neOwn (hn : PySem.W.notFirst X.K C (.ref C) = true) (hne : PySem.W.findIn X.K (.ref C) "__ne__" = some (some (.builtin "object.__ne__"))) (hm : PySem.W.mroIn X.K C (.type "object") = some true) (hs : PySem.W.findIn X.K (.ref C) "__eq__" = some (some (.ref f))) (hf : PySem.W.isFn X.K (.ref f) = true)
    (F : FnOk X.prog X.w X.K X.mg X.base CX n f fd ps sp) (hb : Binds X.K fd ps []) (hr : Room (n + 1) X.A) (hx : Passes CX X E) :
    OpR X (compareOp .NotEq) (fun x y H Q => rEqOwn X.K C sp E x y H fun v H' => ∃ k, v = .bl k ∧ Q (.bl (!k)) H') := by
  intro pins s σ H x y v u Q I rx ry h
  obtain ⟨a, b, dx, dy, fs, gs, rfl, rfl, ha, hb', q⟩ := h
  cases (show v = Value.ref a from rx)
  cases (show u = Value.ref b from ry)
  obtain ⟨od, J⟩ := ins_inst I ha
  obtain ⟨od', J'⟩ := ins_inst I hb'
  have hr1 : Room n X.A.in1 := hr.in1
  show wpAny _ _ (richCompare .NotEq (.ref a) (.ref b)) _ _ s
  refine ne_own (tb := .ref C) hr1.units0 hr.units0 I.kIn J J'.type hn hne hm hs hf ?_
  refine wpAny_mono (run_at' (us := [.ref a, .ref b]) (ws := [.ref a, .ref b]) F hb hr1 I.env0.in1 hx I (.cons rfl (.cons rfl .nil)) q) (fun w s' z => ?_) fun _ _ x => x
  obtain ⟨z', H', I', rz, k, ek, qz⟩ := z
  subst ek
  cases (show w = Value.bool k from rz)
  exact ⟨k, rfl, .bl (!k), H', I', rfl, qz⟩
end
end R49
set_option maxHeartbeats 4000000
/-! more rules: len, truth, bool, item of own instances; items of lists by value; a width in an f-string -/
namespace R49
open PySem PySem.Spec PyProof.Rows L2
section
variable {X : Cx} {CX : CXT} {C f : Addr} {n : Nat} {fd : FuncData} {ps : List Str} {sp : Sp} {E : XK}
/-- len(x) by the class's own def -/
theorem call_lenOwn (hs : PySem.W.findIn X.K (.ref C) "__len__" = some (some (.ref f))) (hf : PySem.W.isFn X.K (.ref f) = true)
    (F : FnOk X.prog X.w X.K X.mg X.base CX n f fd ps sp) (hb : Binds X.K fd ps []) (hr : Room (n + 1) X.A) (hx : Passes CX X E) :
    CallR X (.builtin "len") (fun xs H Q => ∃ a dx fs, xs = [.ref a] ∧ H a = some (.ins C dx fs) ∧ sp [.ref a] H (fun v H' => ∃ k : Nat, v = .int k ∧ k < 2 ^ 62 ∧ Q (.int k) H') E) := by
  intro pins s σ H xs us Q I r h
  obtain ⟨a, dx, fs, rfl, ha, q⟩ := h
  obtain rfl := Vals.ref1 r
  obtain ⟨od, J⟩ := ins_inst I ha
  obtain ⟨m, hF⟩ := I.fr
  have hr1 : Room n X.A.in1 := hr.in1
  refine PySem.W.len_K hF I.ok.mod.kin J hs hf ?_
  refine wpAny_mono (run_at' (us := [.ref a]) (ws := [.ref a]) F hb hr1 I.env0.in1 hx I (.cons rfl .nil) q) (fun w s' z => ?_) fun _ _ x => x
  obtain ⟨z', H', I', rz, k, ek, hk, qz⟩ := z
  subst ek
  obtain ⟨t, rfl⟩ := (show ∃ t, w = Value.int k t from rz)
  exact ⟨⟨by omega, by omega⟩, .int k, H', I'.tok _, ⟨_, rfl⟩, qz⟩
/-- an instance's truth by its own def, as a test -/
theorem pt_truthOwn {e : Expr} {ta : TE} (ha : PE X e ta) (hs : PySem.W.findIn X.K (.ref C) "__bool__" = some (some (.ref f))) (hf : PySem.W.isFn X.K (.ref f) = true)
    (F : FnOk X.prog X.w X.K X.mg X.base CX n f fd ps sp) (hb : Binds X.K fd ps []) (hr : Room n X.A) (hx : Passes CX X E)
    (he : ∀ whole, isTrue e X.env whole = (do let v ← whole; standAt e.pos; holding [v] (truthy v)) := by intro _; rfl) :
    PT X e (fun σ H Q => ta σ H fun x H1 => ∃ a dx fs, x = .ref a ∧ H1 a = some (.ins C dx fs) ∧ sp [.ref a] H1 (fun v H' => ∃ k, v = .bl k ∧ Q k H') E) := by
  refine ⟨fun pins s σ H Q I h => ?_⟩
  refine isTrue_plain (thn (ha.run pins s σ H _ I h) fun v s1 hv => ?_) (he _)
  obtain ⟨x, H1, I1, r1, a, dx, fs, rfl, hx1, q⟩ := hv
  cases (show v = Value.ref a from r1)
  obtain ⟨od, J⟩ := ins_inst I1 hx1
  obtain ⟨m, hF⟩ := I1.fr
  refine PySem.W.truthy_K hF I1.ok.mod.kin J hs hf ?_
  refine wpAny_mono (run_fn (us := [.ref a]) (vs := [.ref a]) F hr hb .nil hx I1 (.cons rfl .nil) q) (fun w s' z => ?_) fun _ _ x => x
  obtain ⟨z', H', I', rz, k, ek, qz⟩ := z
  subst ek
  cases (show w = Value.bool k from rz)
  exact ⟨H', I', qz⟩
/-- two classes (an instance of one of both) -/
theorem pt_truthOwn2 {C2 f2 : Addr} {n2 : Nat} {fd2 : FuncData} {ps2 : List Str} {sp2 : Sp} {e : Expr} {ta : TE} (ha : PE X e ta) (hs : PySem.W.findIn X.K (.ref C) "__bool__" = some (some (.ref f))) (hf : PySem.W.isFn X.K (.ref f) = true)
    (F : FnOk X.prog X.w X.K X.mg X.base CX n f fd ps sp) (hb : Binds X.K fd ps []) (hr : Room n X.A) (hx : Passes CX X E)
    (hs2 : PySem.W.findIn X.K (.ref C2) "__bool__" = some (some (.ref f2))) (hf2 : PySem.W.isFn X.K (.ref f2) = true)
    (F2 : FnOk X.prog X.w X.K X.mg X.base CX n2 f2 fd2 ps2 sp2) (hb2 : Binds X.K fd2 ps2 []) (hr2 : Room n2 X.A)
    (he : ∀ whole, isTrue e X.env whole = (do let v ← whole; standAt e.pos; holding [v] (truthy v)) := by intro _; rfl) :
    PT X e (fun σ H Q => ta σ H fun x H1 => (∃ a dx fs, x = .ref a ∧ H1 a = some (.ins C dx fs) ∧ sp [.ref a] H1 (fun v H' => ∃ k, v = .bl k ∧ Q k H') E) ∨
      ∃ a dx fs, x = .ref a ∧ H1 a = some (.ins C2 dx fs) ∧ sp2 [.ref a] H1 (fun v H' => ∃ k, v = .bl k ∧ Q k H') E) := by
  refine ⟨fun pins s σ H Q I h => ?_⟩
  refine isTrue_plain (thn (ha.run pins s σ H _ I h) fun v s1 hv => ?_) (he _)
  obtain ⟨x, H1, I1, r1, hq⟩ := hv
  rcases hq with ⟨a, dx, fs, rfl, hx1, q⟩ | ⟨a, dx, fs, rfl, hx1, q⟩
  · cases (show v = Value.ref a from r1)
    obtain ⟨od, J⟩ := ins_inst I1 hx1
    obtain ⟨m, hF⟩ := I1.fr
    refine PySem.W.truthy_K hF I1.ok.mod.kin J hs hf ?_
    refine wpAny_mono (run_fn (us := [.ref a]) (vs := [.ref a]) F hr hb .nil hx I1 (.cons rfl .nil) q) (fun w s' z => ?_) fun _ _ x => x
    obtain ⟨z', H', I', rz, k, ek, qz⟩ := z
    subst ek
    cases (show w = Value.bool k from rz)
    exact ⟨H', I', qz⟩
  · cases (show v = Value.ref a from r1)
    obtain ⟨od, J⟩ := ins_inst I1 hx1
    obtain ⟨m, hF⟩ := I1.fr
    refine PySem.W.truthy_K hF I1.ok.mod.kin J hs2 hf2 ?_
    refine wpAny_mono (run_fn (us := [.ref a]) (vs := [.ref a]) F2 hr2 hb2 .nil hx I1 (.cons rfl .nil) q) (fun w s' z => ?_) fun _ _ x => x
    obtain ⟨z', H', I', rz, k, ek, qz⟩ := z
    subst ek
    cases (show w = Value.bool k from rz)
    exact ⟨H', I', qz⟩
/-- bool(x) of an instance by its own __bool__, at the level of states -/
theorem bool_own {prog : Program} {w : World} {A : Around} {E1 : Value → Shared → Prop} {s : Shared} {x : Value} {Q : Value → Shared → Prop}
    (h : wpAny (model prog w) A.in1.in1 (truthy x) (fun k s' => Q (.bool k) s') E1 s) : wpAny (model prog w) A (call (.type "bool") [x]) Q E1 s := by
  refine callType_codes (T := "bool") (Bi := Builtin.«object.__init__») (Q₁ := fun r s₁ => ∃ k, r = Value.bool k ∧ Q r s₁) PySem.F.called_bool (PySem.F.typeCall_bool_1 x) PySem.F.entry_object_init ?_ ?_
  · refine codeAny_of_tree ?_
    show wpAny _ A.in1.in1 (do checkBuiltinCall "bool.__new__" ⟨[.type "bool", x], []⟩; again (.builtin "bool.__new__" ⟨[.type "bool", x], []⟩)) _ _ s
    refine wpAny_bind (wpAny_of_eq (PySem.F.newCall_bool_1 _) (wpAny_pure ⟨plainId_quiet (by decide +kernel) _, codeAny_builtin PySem.F.entry_bool_new ?_⟩))
    rw [Around.under_plainId (by decide +kernel) _]
    unfold Builtin.«bool.__new__»
    dsimp only
    refine wpAny_bind (wpAny_of_eq (a := true) (by first | rfl | kernel_rfl) ?_)
    refine PySem.W.KFB.if_not rfl ?_
    refine wpAny_bind (wpAny_of_eq (a := true) PySem.F.conv_sub_bool ?_)
    refine PySem.W.KFB.if_not rfl ?_
    refine wpAny_bind (wpAny_of_eq (a := [x]) (by first | rfl | kernel_rfl) ?_)
    dsimp only
    refine wpAny_bind (wpAny_mono h (fun k s' hk => ?_) fun _ _ y => y)
    exact wpAny_pure ⟨k, rfl, hk⟩
  · rintro obj s₁ ⟨k, rfl, hq⟩
    exact ⟨PySem.typeIs_bool _ _, PySem.F.args_object_init_2 _ _, object_init_meets PySem.F.called_bool.init.lookup PySem.F.called_bool.made (by decide) prog w A.in1 _ s₁ ⟨PySem.typeIs_bool _ _, rfl, hq⟩⟩
/-- truth of an own instance, by values -/
theorem tru_own {A : Around} {pins : List (Addr × Obj)} {σ : L2.St} {H : Hp} {s : Shared} {a dx : Addr} {fs : List (Str × V)} {Q : Bool → Shared → Prop} {R : Bool → Hp → Prop} (I : Inv X pins σ H s) (e0 : Env0 X.prog X.w X.K X.mg X.base A X.stack s H)
    (hs : PySem.W.findIn X.K (.ref C) "__bool__" = some (some (.ref f))) (hf : PySem.W.isFn X.K (.ref f) = true)
    (F : FnOk X.prog X.w X.K X.mg X.base CX n f fd ps sp) (hb : Binds X.K fd ps []) (hr : Room n A) (hx : Passes CX X E) (ha : H a = some (.ins C dx fs))
    (q : sp [.ref a] H (fun v H' => ∃ k, v = .bl k ∧ R k H') E) (hQ : ∀ k H' s', Inv X pins σ H' s' → R k H' → Q k s') : wpAny (model X.prog X.w) A (truthy (.ref a)) Q X.xe s := by
  obtain ⟨od, J⟩ := ins_inst I ha
  obtain ⟨m, hF⟩ := I.fr
  refine PySem.W.truthy_K hF I.ok.mod.kin J hs hf ?_
  refine wpAny_mono (run_at' (us := [.ref a]) (ws := [.ref a]) F hb hr e0 hx I (.cons rfl .nil) q) (fun w s' z => ?_) fun _ _ x => x
  obtain ⟨z', H', I', rz, k, ek, qz⟩ := z
  subst ek
  cases (show w = Value.bool k from rz)
  exact hQ k H' s' I' qz
/-- bool(x), x an instance with a __bool__ of its own -/
theorem call_boolOwn (hs : PySem.W.findIn X.K (.ref C) "__bool__" = some (some (.ref f))) (hf : PySem.W.isFn X.K (.ref f) = true)
    (F : FnOk X.prog X.w X.K X.mg X.base CX n f fd ps sp) (hb : Binds X.K fd ps []) (hr : Room (n + 2) X.A) (hx : Passes CX X E) :
    CallR X (.type "bool") (fun xs H Q => ∃ a dx fs, xs = [.ref a] ∧ H a = some (.ins C dx fs) ∧ sp [.ref a] H (fun v H' => ∃ k, v = .bl k ∧ Q (.bl k) H') E) := by
  intro pins s σ H xs us Q I r h
  obtain ⟨a, dx, fs, rfl, ha, q⟩ := h
  obtain rfl := Vals.ref1 r
  have hr2 : Room n X.A.in1.in1 := (show Room (n + 1) X.A.in1 from Room.in1 hr).in1
  refine bool_own (tru_own (R := fun k H' => Q (.bl k) H') I I.env0.in1.in1 hs hf F hb hr2 hx ha q fun k H' s' I' q' => ?_)
  exact ⟨.bl k, H', I', rfl, q'⟩
/-- x[i], x an instance with a __getitem__ of its own -/
theorem pe_subOwn {a b : Expr} {ta tb : TE} {pos : Pos} (ha : PE X a ta) (hb0 : PE X b tb) (hs : PySem.W.findIn X.K (.ref C) "__getitem__" = some (some (.ref f))) (hfi : PySem.W.fnIn X.K f = true) (hf : PySem.W.isFn X.K (.ref f) = true)
    (F : FnOk X.prog X.w X.K X.mg X.base CX n f fd ps sp) (hb : Binds X.K fd ps []) (hr : Room (n + 1) X.A) (hx : Passes CX X E)
    (hsl : ∀ o i, subscripted b true o i = runValue (.builtin "lifetime.subscript" ⟨[o, i], []⟩) := by intro _ _; with_unfolding_all rfl) :
    PE X (.Subscript a b pos) (tOp (fun x y H Q => ∃ p dx fs, x = .ref p ∧ H p = some (.ins C dx fs) ∧ sp [.ref p, y] H Q E) ta tb) := by
  refine ⟨fun pins s σ H Q I h => ?_⟩
  refine Subscript_ (binT ha hb0 I h fun v u s2 x y H2 I2 rx ry q => ?_)
  obtain ⟨p, dx, fs, rfl, hp, q⟩ := q
  cases (show v = Value.ref p from rx)
  obtain ⟨od, J⟩ := ins_inst I2 hp
  obtain ⟨m, hF⟩ := I2.fr
  have hr1 : Room n X.A.in1 := hr.in1
  exact PySem.W.sub_K hF I2.ok.mod.kin J hs hfi hf (run_at' (us := [.ref p, u]) (ws := [.ref p, y]) F hb hr1 I2.env0.in1 hx I2 (.cons rfl (.cons ry .nil)) q) (hsl _ _)
/-- xs[i] of a list, by values (for xs[i] += e) -/
theorem get_list : PGet X (fun o i H Q => ∃ p xs k v, o = .ref p ∧ i = .int k ∧ 0 ≤ k ∧ SqL X.K H p xs ∧ xs[k.toNat]? = some v ∧ Q v H) := by
  intro pins s σ H o i ov iv Q I ro ri h
  obtain ⟨p, xs, k, v, rfl, rfl, hk, hq, hv, q⟩ := h
  cases (show ov = Value.ref p from ro)
  obtain ⟨t, rfl⟩ := ri
  obtain ⟨its, r, pl, hz⟩ := I.list hq
  obtain ⟨w, ew, rw'⟩ := r.get hv
  have hlt := (List.getElem?_eq_some_iff.mp hv).1
  have hn := line63
  exact wpAny_getItem_list pl.isList hk (by have := r.length; omega) (x := w) (by rw [List.getElem?_toArray]; exact ew) ⟨v, H, I, rw', q⟩
end
/-! ### a width in an f-string -/
section
variable {prog : Program} {w : World} {A : Around} {E : Value → Shared → Prop} {s : Shared}
theorem fmt_small {a : Int} {t : Tok} {spec : Str} {f : Builtin.Float.FormatSpec} {Q : Value → Shared → Prop} (hs : a.natAbs.log2 < 1920)
    (hp : Builtin.Float.parseFormatSpec spec.cps.toList "int" 62 = .ok f) (hne : (spec.length == 0) = false)
    (hasc : ((spec.cps.toList.drop 1).any (· ≥ 128) || (spec.cps.getD 0 0 ≥ 128 && !([60, 62, 61, 94] : List Nat).contains (spec.cps.getD 1 0))) = false)
    (hty : f.type.getD (if spec.cps.back? == some 0 then 0 else 100) = 100) (hpr : f.precision = none) (hz : f.noNeg0 = false) (hal : f.alt = false) (hgr : f.grouping = none) (hsg : f.sign = none) (hw : f.width.getD 0 ≤ 100000)
    (hlen : (intSpecText f a).length ≤ sizeLine) (h : Q (.str (intSpecText f a) (s.toks + 1)) { s with toks := s.toks + 1 + 1 }) (hsz : spec.length ≤ sizeLine := by size_fits) :
    wpAny (model prog w) A (formatField (.int a t) spec) Q E s := by
  show wpAny _ _ (holding [.int a t] (pyFormat (.int a t) spec)) Q E s
  refine wpAny_holding ?_
  unfold pyFormat
  refine wpAny_bind (wpAny_mkStr ?_ hsz)
  refine wpAny_bind (m := callSpecial? (.int a t) (Str.ofString "__format__") [.str spec s.toks]) (wpAny_callSpecial?_slot (name := Str.ofString "__format__") (PySem.typeIs_int _ a t) PySem.F.slot_int_format ?_)
  refine wpAny_call (codeAny_call_builtin PySem.F.slot_int_format.plain PySem.F.entry_int_format (PySem.F.slot_int_format.check _ _ _ _ _ _ _ _ (PySem.typeIs_int _ a t) (PySem.F.args_int_format_2 _ _) ?_))
  unfold Builtin.«int.__format__»
  simp only [selfAndOne, noKeywords, PySem.Builtin.Int.intOfSelf, asInt?, asStr?, List.isEmpty_nil, if_true, pure_bind, bind_pure, bind_assoc, hne, hasc, Bool.false_eq_true, if_false, show (Value.str spec s.toks == Value.none) = false from rfl]
  refine wpAny_bind (PySem.wpAny_typeNameOf (T := "str") (PySem.typeIs_str _ _ _) (by decide) fun _ => ?_)
  refine wpAny_bind (wpAny_typeNameOfCut_int ?_)
  simp only [hp, hty]
  rw [if_pos (by decide)]
  show wpAny _ _ (if _ then _ else _) _ _ _
  rw [if_neg (by simp [hpr])]
  show wpAny _ _ (if _ then _ else _) _ _ _
  rw [if_neg (by simp [hz])]
  show wpAny _ _ (if _ then _ else _) _ _ _
  rw [if_neg (by decide)]
  show wpAny _ _ (do let r ← Builtin.overDigitLimit? a; _) _ _ _
  refine wpAny_bind (wpAny_of_eq (PyProof.Rows.overDigitLimit_small hs) ?_)
  show wpAny _ _ (if _ then _ else _) _ _ _
  have hw' : ¬ (f.width.getD 0 > 100000) := by omega
  rw [if_neg (by simpa using hw')]
  show wpAny _ _ (retStr _) _ _ _
  unfold retStr
  refine wpAny_bind (wpAny_mkStr (wpAny_pure ?_) ?hs2)
  case hs2 =>
    simp only [hal, Bool.false_eq_true, if_false, show ((10 : Nat) == 10) = true by decide, if_true]
    conv => lhs; arg 1; whnf
    simp only [intSpecText, intField', hgr, hsg, hal, Bool.false_eq_true, if_false, show ((10 : Nat) == 10) = true by decide, if_true] at hlen ⊢
    exact hlen
  dsimp only
  refine wpAny_bind (wpAny_isInstance (PySem.typeIs_str _ _ _) isSubtype_str_str (wpAny_pure ?_))
  simp only [hal, Bool.false_eq_true, if_false, show ((10 : Nat) == 10) = true by decide, if_true]
  conv => arg 1; arg 1; whnf
  simp only [intSpecText, intField', hgr, hsg, hal, Bool.false_eq_true, if_false, show ((10 : Nat) == 10) = true by decide, if_true] at h ⊢
  exact h
end
end R49
set_option maxHeartbeats 4000000
/-! numbers to the right of so many places -/
namespace R49
open PySem PySem.Spec PyProof.Rows L2
abbrev fW (p : Nat) : Builtin.Float.FormatSpec := { align := 62, width := some p }
theorem parse5 : Builtin.Float.parseFormatSpec (">5" : Str).cps.toList "int" 62 = .ok (fW 5) := by kernel_rfl
theorem parse6 : Builtin.Float.parseFormatSpec (">6" : Str).cps.toList "int" 62 = .ok (fW 6) := by kernel_rfl
theorem parse7 : Builtin.Float.parseFormatSpec (">7" : Str).cps.toList "int" 62 = .ok (fW 7) := by kernel_rfl
/-- as the law writes it: blanks, then the number -/
def wideT (a : Int) (p : Int) : Str := Txt.mul " " (p - ((toString a : Str).length : Int)) ++ (toString a : Str)
theorem wide_all : (List.range 200).all (fun n => decide (intSpecText (fW 5) (n : Nat) = wideT (n : Nat) 5) && decide (intSpecText (fW 6) (n : Nat) = wideT (n : Nat) 6) && decide (intSpecText (fW 7) (n : Nat) = wideT (n : Nat) 7)
   && decide ((wideT (n : Nat) 5).length ≤ 7) && decide ((wideT (n : Nat) 6).length ≤ 7) && decide ((wideT (n : Nat) 7).length ≤ 7) && decide ((toString (n : Int) : Str).length ≤ 3)) = true := by decide +kernel
structure WideOk (a : Int) : Prop where
  e5 : intSpecText (fW 5) a = wideT a 5
  e6 : intSpecText (fW 6) a = wideT a 6
  e7 : intSpecText (fW 7) a = wideT a 7
  l5 : (wideT a 5).length ≤ 7
  l6 : (wideT a 6).length ≤ 7
  l7 : (wideT a 7).length ≤ 7
  l : (toString a : Str).length ≤ 3
theorem wide_ok {a : Int} (h0 : 0 ≤ a) (h1 : a < 200) : WideOk a := by
  obtain ⟨n, rfl⟩ := Int.eq_ofNat_of_zero_le h0
  have h := List.all_eq_true.mp wide_all n (List.mem_range.mpr (by omega))
  simp only [Bool.and_eq_true, decide_eq_true_eq] at h
  obtain ⟨⟨⟨⟨⟨⟨a1, a2⟩, a3⟩, a4⟩, a5⟩, a6⟩, a7⟩ := h
  exact ⟨a1, a2, a3, a4, a5, a6, a7⟩
theorem log2_small {a : Int} (h0 : 0 ≤ a) (h1 : a < 200) : a.natAbs.log2 < 1920 := by
  by_cases hz : a.natAbs = 0
  · rw [hz]; decide
  · exact Nat.lt_of_lt_of_le ((Nat.log2_lt hz).mpr (show a.natAbs < 2 ^ 8 by omega)) (by decide)
section
variable {X : Cx}
/-- {x:>p} of an int from 0 below 200 -/
def tFmtW (p : Int) (te : TE) : TE := fun σ H Q => te σ H fun x H1 => ∃ i, x = .int i ∧ 0 ≤ i ∧ i < 200 ∧ Q (.str (wideT i p)) H1
theorem pe_fmtW {e : Expr} {te : TE} {sp : Str} {p : Nat} {j : Nat} {p1 p2 pos : Pos} (he : PE X e te) (hp : Builtin.Float.parseFormatSpec sp.cps.toList "int" 62 = .ok (fW p)) (hw : p ≤ 100)
    (heq : ∀ a, WideOk a → intSpecText (fW p) a = wideT a (p : Nat) ∧ (wideT a (p : Nat)).length ≤ 7)
    (hne : (sp.length == 0) = false := by decide)
    (hasc : ((sp.cps.toList.drop 1).any (· ≥ 128) || (sp.cps.getD 0 0 ≥ 128 && !([60, 62, 61, 94] : List Nat).contains (sp.cps.getD 1 0))) = false := by decide)
    (hty : (fW p).type.getD (if sp.cps.back? == some 0 then 0 else 100) = 100 := by decide) (hsz : sp.length ≤ sizeLine := by size_fits) :
    PE X (.FormattedValue e (-1) (some (.JoinedStr [.Constant (.str sp) j p1] p2)) pos) (tFmtW p te) := by
  refine ⟨fun pins s σ H Q I h => ?_⟩
  refine wpAny_FormattedValue_spec (thn (he.run pins s σ H _ I h) fun v s1 hv => ?_)
  obtain ⟨x, H1, I1, r1, i, rfl, h0, h1, q⟩ := hv
  obtain ⟨t, rfl⟩ := r1
  obtain ⟨e1, e2⟩ := heq i (wide_ok h0 h1)
  refine wpAny_JoinedStr_one (Calls.Constant_str ?_)
  refine ⟨sp, _, rfl, ?_⟩
  have hl : (intSpecText (fW p) i).length ≤ sizeLine := by rw [e1, sizeLine_eq]; omega
  refine fmt_small (f := fW p) (log2_small h0 h1) hp hne hasc hty rfl rfl rfl rfl rfl (by show p ≤ 100000; omega) hl ?_ hsz
  rw [e1]
  exact ⟨.str _, H1, I1.tok _, ⟨_, rfl⟩, q⟩
theorem pe_fmt5 {e : Expr} {te : TE} {j : Nat} {p1 p2 pos : Pos} (he : PE X e te) : PE X (.FormattedValue e (-1) (some (.JoinedStr [.Constant (.str ">5") j p1] p2)) pos) (tFmtW 5 te) :=
  pe_fmtW (p := 5) he parse5 (by decide) fun a w => ⟨w.e5, w.l5⟩
theorem pe_fmt6 {e : Expr} {te : TE} {j : Nat} {p1 p2 pos : Pos} (he : PE X e te) : PE X (.FormattedValue e (-1) (some (.JoinedStr [.Constant (.str ">6") j p1] p2)) pos) (tFmtW 6 te) :=
  pe_fmtW (p := 6) he parse6 (by decide) fun a w => ⟨w.e6, w.l6⟩
theorem pe_fmt7 {e : Expr} {te : TE} {j : Nat} {p1 p2 pos : Pos} (he : PE X e te) : PE X (.FormattedValue e (-1) (some (.JoinedStr [.Constant (.str ">7") j p1] p2)) pos) (tFmtW 7 te) :=
  pe_fmtW (p := 7) he parse7 (by decide) fun a w => ⟨w.e7, w.l7⟩
/-- text * int -/
theorem op_mulS : OpR X (binaryOp .Mult) (fun x y H Q => ∃ z n, x = .str z ∧ y = .int n ∧ MulOk z n ∧ Q (.str (Txt.mul z n)) H) := by
  intro pins s σ H x y v u Q I rx ry h
  obtain ⟨z, n, rfl, rfl, hok, q⟩ := h
  obtain ⟨t, rfl⟩ := rx
  obtain ⟨t', rfl⟩ := ry
  exact SB.mul hok fun t' k => ⟨.str _, H, I.tok _, ⟨_, rfl⟩, q⟩
theorem mulOk_blank {n : Int} (h0 : 0 ≤ n) (h1 : n < 100) : MulOk " " n := by
  have hl : (" " : Str).length = 1 := by decide
  refine ⟨?_, fun h2 _ => ?_, fun h2 _ => ?_⟩
  · simp only [Bool.or_eq_false_iff, decide_eq_false_iff_not]
    omega
  · rw [hl]
    have : (1 : Int) ≤ (2 ^ 63 - 1) / n := by
      refine (Int.le_ediv_iff_mul_le (by omega)).mpr ?_
      omega
    omega
  · rw [hl]
    unfold PySem.Builtin.Str.tooLong
    simp only [decide_eq_false_iff_not]
    rw [sizeLine_eq]
    omega
end
end R49
set_option maxHeartbeats 4000000
/-! for within a generator -/
namespace R49
open PySem PySem.Spec PyProof.Rows L2 GenW
section
variable {M : Model} {A : Around} {R : GenEnd} {Y : Protocol} {n : Nat} {s₀ s : Shared} {c : Code} {fs : List Frame} {env : Env} {K : Flow → Sem PySem.Fin} {J : Value → Sem PySem.Fin} {gd : Bool → Bool} {lv : List Value → List Value}
theorem seg_For {tg iter : Expr} {body : List Stmt} {pos : Pos}
    (h : wpAny M (A.over c fs) (eval iter env) (fun x s1 => wpAny M (A.over c fs) (pyIter x) (fun it s2 => ∀ p, Seg M A R Y n s₀ (.forLoop tg it body [] env) (M.den (.forLoop tg it body [] env))
        (.ret (fun r => ((match r with | .ok f => (.pure f : Sem Flow) | .error e => .raise e).onRaise (cameBack env)).wrap K J gd lv) none (gd false) (lv []) c p [] :: fs) s2) (fun x s' => Seg M A R Y n s₀ c (J x) fs s') s1) (fun x s' => Seg M A R Y n s₀ c (J x) fs s') s)
    (hs : ∀ x, foldedSetIterable iter env x = pure x) : Seg M A R Y n s₀ c ((exec (.For tg iter body [] pos) env).wrap K J gd lv) fs s := by
  rw [exec_For]
  show Seg _ _ _ _ _ _ _ (.at pos fun _ => ((eval iter env >>= fun x => foldedSetIterable iter env x >>= fun x => standAt iter.pos >>= fun _ => holding [x] (pyIter x) >>= fun it => runOwn (.forLoop tg it body [] env) env).wrap K J gd lv)) _ _
  refine seg_at (seg_bind_wrap (wpAny_mono h (fun x s1 h1 => ?_) fun _ _ z => z))
  refine seg_bind_wrap (wpAny_of_eq (hs x) ?_)
  refine seg_bind_wrap (wpAny_standAt ?_)
  refine seg_bind_wrap (wpAny_holding (wpAny_mono h1 (fun it s2 h2 => ?_) fun _ _ z => z))
  exact seg_call h2
end
section
variable {prog : Program} {w : World} {A : Around} {R : GenEnd} {Y : Protocol} {n : Nat} {s₀ s : Shared} {fs : List Frame} {env : Env}
abbrev exLoop (env : Env) (e : Value) : Sem PySem.Fin := (do noteFrame e env; theTreesLotGoes e : Sem Unit).bind fun _ => .raise e
theorem seg_forLoop {tg : Expr} {it : Value} {body : List Stmt}
    (h : wpAny (model prog w) (A.over (.forLoop tg it body [] env) fs) (pyNext it) (fun r s1 => match r with
        | none => Seg (model prog w) A R Y n s₀ (.block [] env) (.pure (.done .next)) fs s1
        | some v => wpAny (model prog w) (A.over (.forLoop tg it body [] env) fs) (letOwnedTupleGo tg it v) (fun _ s2 => wpAny (model prog w) (A.over (.forLoop tg it body [] env) fs) (assign tg env v) (fun _ s3 =>
            Seg (model prog w) A R Y n s₀ (.forLoop tg it body [] env) ((execs body env).wrap (fun f => match f with
              | .next | .cont => .pure (.again (.forLoop tg it body [] env))
              | .brk => .pure (.done .next)
              | .ret v => .pure (.done (.ret v))) (exLoop env) id id) fs s3)
            (fun x s' => Seg (model prog w) A R Y n s₀ (.forLoop tg it body [] env) (exLoop env x) fs s') s2) (fun x s' => Seg (model prog w) A R Y n s₀ (.forLoop tg it body [] env) (exLoop env x) fs s') s1)
      (fun x s' => Seg (model prog w) A R Y n s₀ (.forLoop tg it body [] env) (exLoop env x) fs s') s) :
    Seg (model prog w) A R Y n s₀ (.forLoop tg it body [] env) ((model prog w).den (.forLoop tg it body [] env)) fs s := by
  show Seg _ A R Y n s₀ _ ((forTurn tg it body [] env).onRaise (fun x => do noteFrame x env; theTreesLotGoes x)) fs s
  unfold forTurn
  rw [Sem.onRaise_eq_wrap]
  refine seg_bind_wrap (wpAny_standAt ?_)
  refine seg_bind_wrap (wpAny_onRaise (wpAny_mono h (fun r s1 h1 => ?_) fun x s' hx => wpAny_standAt hx))
  cases r with
  | none =>
    refine seg_again rfl ?_
    exact h1
  | some v =>
    refine seg_bind_wrap (wpAny_mono h1 (fun _ s2 h2 => ?_) fun _ _ z => z)
    refine seg_bind_wrap (wpAny_mono h2 (fun _ s3 h3 => ?_) fun _ _ z => z)
    rw [Sem.bind_eq_wrap', Sem.wrap_wrap]
    refine Eq.mp (congrArg (fun t => Seg (model prog w) A R Y n s₀ (Code.forLoop tg it body [] env) t fs s3) (Sem.wrap_congr (execs body env) id id (fun f => ?_) (fun e => ?_))) h3
    · cases f <;> rfl
    · rfl
end
section
variable {X : Cx} {tg iter : Expr} {body : List Stmt}
/-- a for in a generator's body: W by turn, measure, what is out, slots, heap -/
def tGFor (wi : TI) (g : TG) (tb : TGn) : TGn := fun D ys σ H => wi σ H fun J H1 => ∃ W : Nat → Nat → List V → L2.St → Hp → Prop, (∃ m, W 0 m ys σ H1) ∧ ∀ i m ys σ H, W i m ys σ H →
  (J.stop i H ∧ D.nx ys σ H) ∨ (J.go i H ∧ ∃ N : List V → L2.St → Hp → Prop, (∀ ys' σ' H', N ys' σ' H' → ∃ m', m' < m ∧ W (i + 1) m' ys' σ' H') ∧ ∀ x H', J.yld i H x H' → g x σ H' fun σ2 H2 => tb { D with nx := N, ct := N, bk := D.nx } ys σ2 H2)
theorem gs_for {wi : TI} {g : TG} {tb : TGn} {pos : Pos} (hp : PassesOwn (model X.prog X.w) X.A X.env X.xe) (hc : X.calm = true) (hi : PI X tg iter wi) (hg : PG X tg g) (hb : GSs X body tb)
    (hs : ∀ x, foldedSetIterable iter X.env x = pure x := by intro _; rfl) : GS X (.For tg iter body [] pos) (tGFor wi g tb) := by
  refine ⟨fun A S ip R n ys s₀ c fs K J gd lv s σ H D gc hn k hI ht => ?_⟩
  obtain ⟨acc0, cc0, r0, I0⟩ := hI
  refine seg_For ?_ hs
  rw [gc.over]
  refine wpAny_mono (hi.run _ s σ H _ I0 ht) (fun v s1 h1 => ?_) fun x s' hx => k.exc n s₀ x s' hx
  refine wpAny_mono h1 (fun itv s2 h2 => ?_) fun x s' hx => k.exc n s₀ x s' hx
  obtain ⟨it, fp, tn, Jt, H2, rfl, I2, T, st2, f2, W, ⟨m0, w0⟩, turn⟩ := h2
  intro p
  -- what stays true of the iterator's objects
  have f3 : ∀ b ∈ fp, (b ≠ X.env.locals ∧ b ∉ X.fs ∧ (b ∈ X.ex ∨ X.s_0.heap.objs.size ≤ b) ∧ (∀ x c, X.env.cells.lookup x = some c → c ≠ b)) ∧ b ≠ S ∧ ∀ q ∈ X.pn ++ ip, q.1 ≠ b := fun b hb => by
    obtain ⟨_, q1, q2, q3, q4, q5⟩ := f2 b hb
    refine ⟨⟨q1, q2, q3, q4⟩, fun z => q5 (S, lstObj acc0 cc0) (List.mem_append_right _ List.mem_cons_self) z.symm, fun q hq => ?_⟩
    rcases List.mem_append.mp hq with z | z
    · exact q5 q (List.mem_append_left _ z)
    · exact q5 q (List.mem_append_right _ (List.mem_cons_of_mem _ z))
  have stat : ∀ {H' : Hp} {acc : Array Value} {cc : Nat}, (∀ b ∈ fp, H' b = none) → ∀ b ∈ fp, FpOk X ((S, lstObj acc cc) :: ip) H' b := fun {H' acc cc} hn b hb => by
    obtain ⟨⟨q1, q2, q3, q4⟩, q5, q6⟩ := f3 b hb
    refine ⟨hn b hb, q1, q2, q3, q4, fun q hq => ?_⟩
    rcases List.mem_append.mp hq with z | z
    · exact q6 q (List.mem_append_left _ z)
    · rcases List.mem_cons.mp z with z | z
      · rw [z]; exact Ne.symm q5
      · exact q6 q (List.mem_append_right _ z)
  have gl := fun (kk : Result → Sem PySem.Fin) => gc_loop (k := kk) (c' := .forLoop tg (.ref it) body [] X.env) (l := lv []) (kp := []) (p := p) gc rfl rfl
  have loop : ∀ (m n i : Nat) (ys : List V) (s₀ s : Shared) (σ : L2.St) (H : Hp), n + ys.length = sizeLine → W i m ys σ H → GI X S ip ys σ H s → tn i s.heap → (∀ b ∈ fp, H b = none) →
      Seg (model X.prog X.w) A R (GY X S) n s₀ (.forLoop tg (.ref it) body [] X.env) ((model X.prog X.w).den (.forLoop tg (.ref it) body [] X.env))
        (.ret (fun r => ((match r with | .ok f => (.pure f : Sem Flow) | .error e => .raise e).onRaise (cameBack X.env)).wrap K J gd lv) none (gd false) (lv []) c p [] :: fs) s := by
    intro m
    induction m using Nat.strongRecOn with
    | ind m ih =>
      intro n i ys s₀ s σ H hn w hI hst hfr
      have ee : ∀ (n : Nat) (s₀ : Shared) (x : Value) (s' : Shared), X.xe x s' → Seg (model X.prog X.w) A R (GY X S) n s₀ (.forLoop tg (.ref it) body [] X.env) (exLoop X.env x)
          (.ret (fun r => ((match r with | .ok f => (.pure f : Sem Flow) | .error e => .raise e).onRaise (cameBack X.env)).wrap K J gd lv) none (gd false) (lv []) c p [] :: fs) s' := fun n s₀ x s' hx => by
        show Seg _ _ _ _ _ _ _ ((do noteFrame x X.env; theTreesLotGoes x : Sem Unit).bind fun _ => .raise x) _ _
        rw [Sem.bind_eq_wrap]
        refine seg_wrap ?_
        rw [(gl _).over]
        refine wpAny_bind (wpAny_mono (hp x s' hx) (fun _ s'' hcb => wpAny_theTreesLotGoes ?_) fun y s'' hcb => ?_)
        · exact seg_leaf (.error x) (seg_cameBack gc k hcb)
        · exact seg_leaf (.error y) (seg_cameBack gc k hcb)
      obtain ⟨acc, cc, r, I⟩ := hI
      refine seg_forLoop ?_
      rw [(gl _).over]
      rcases turn i m ys σ H w with ⟨stop, qn⟩ | ⟨go, N, hN, step⟩
      · refine wpAny_mono (T.done X rfl rfl rfl hc i _ s σ H X.xe I (stat hfr) hst stop) (fun rr s4 h4 => ?_) fun x s' hx => ee n s₀ x s' hx
        obtain ⟨hr, I4⟩ := h4
        subst hr
        exact seg_leaf (.ok .next) (k.ok n ys s₀ s4 .next hn ⟨σ, H, ⟨acc, cc, r, I4⟩, qn⟩)
      · refine wpAny_mono (T.item X rfl rfl rfl hc i _ s σ H X.xe I (stat hfr) hst go) (fun rr s4 h4 => ?_) fun x s' hx => ee n s₀ x s' hx
        obtain ⟨u, hr, h4⟩ := h4
        subst hr
        refine wpAny_mono h4 (fun _ s5 h5 => ?_) fun x s' hx => ee n s₀ x s' hx
        obtain ⟨x, H5, I5, r5, y5, st5, fr5⟩ := h5
        have I5' := I5.pinned (stat fr5) (T.obj _ _ st5)
        refine wpAny_mono (hg.run _ s5 σ H5 x u _ I5' r5 (step x H5 y5)) (fun _ s6 h6 => ?_) fun x s' hx => ee n s₀ x s' hx
        obtain ⟨σ6, H6, I6, q6⟩ := h6
        have G6 : GI X S (ip ++ pinsAt fp s5.heap) ys σ6 H6 s6 := ⟨acc, cc, r, I6⟩
        have hip : ∀ q ∈ ip ++ pinsAt fp s5.heap, q.1 ≠ S := fun q hq => by
          rcases List.mem_append.mp hq with z | z
          · exact gc.ip q z
          · exact (f3 q.1 (of_pinsAt z).1).2.1
        have gl' := gl (fun r => ((match r with | .ok f => (.pure f : Sem Flow) | .error e => .raise e).onRaise (cameBack X.env)).wrap K J gd lv)
        have gl2 : GC X S (ip ++ pinsAt fp s5.heap) A (.forLoop tg (.ref it) body [] X.env) (.ret (fun r => ((match r with | .ok f => (.pure f : Sem Flow) | .error e => .raise e).onRaise (cameBack X.env)).wrap K J gd lv) none (gd false) (lv []) c p [] :: fs) id :=
          ⟨gl'.pn, hip, gl'.apart, gl'.over, gl'.split, gl'.guard, gl'.gd⟩
        have back : ∀ {ys' : List V} {σ' : L2.St} {H' : Hp} {s' : Shared}, GI X S (ip ++ pinsAt fp s5.heap) ys' σ' H' s' → GI X S ip ys' σ' H' s' ∧ tn (i + 1) s'.heap ∧ ∀ b ∈ fp, H' b = none := fun {ys' σ' H' s'} hG => by
          obtain ⟨acc', cc', r', I'⟩ := hG
          have pin' : ∀ b ∈ fp, ∀ o, s5.heap.get? b = some o → s'.heap.get? b = some o ∧ H' b = none := fun b hb o e =>
            let z := I'.pin (b, o) (List.mem_append_right _ (List.mem_cons_of_mem _ (List.mem_append_right _ (mem_pinsAt hb e))))
            ⟨z.1, z.2.1⟩
          refine ⟨⟨acc', cc', r', Inv.unpinned (pins := (S, lstObj acc' cc') :: ip) (pl := pinsAt fp s5.heap) I'⟩, T.keep _ _ _ st5 fun b hb o e => (pin' b hb o e).1, fun b hb => ?_⟩
          obtain ⟨o, e, _⟩ := T.obj _ _ st5 b hb
          exact (pin' b hb o e).2
        refine hb.run A S (ip ++ pinsAt fp s5.heap) R n ys s₀ _ _ _ _ id id s6 σ6 H6 { D with nx := N, ct := N, bk := D.nx } gl2 hn ⟨fun n' ys' s₀' s7 f hn' hs' => ?_, fun n' s₀' x s7 hx => ee n' s₀' x s7 hx⟩ G6 q6
        cases f with
        | next =>
          obtain ⟨σ7, H7, I7, n7⟩ := hs'
          obtain ⟨m', hm, w7⟩ := hN ys' σ7 H7 n7
          obtain ⟨b1, b2, b3⟩ := back I7
          exact seg_again rfl (ih m' hm n' (i + 1) ys' s₀' s7 σ7 H7 hn' w7 b1 b2 b3)
        | cont =>
          obtain ⟨σ7, H7, I7, n7⟩ := hs'
          obtain ⟨m', hm, w7⟩ := hN ys' σ7 H7 n7
          obtain ⟨b1, b2, b3⟩ := back I7
          exact seg_again rfl (ih m' hm n' (i + 1) ys' s₀' s7 σ7 H7 hn' w7 b1 b2 b3)
        | brk =>
          obtain ⟨σ7, H7, I7, n7⟩ := hs'
          exact seg_leaf (.ok .next) (k.ok n' ys' s₀' s7 .next hn' ⟨σ7, H7, (back I7).1, n7⟩)
        | ret v =>
          obtain ⟨v7, σ7, H7, I7, r7, n7⟩ := hs'
          exact seg_leaf (.ok (.ret v)) (k.ok n' ys' s₀' s7 (.ret v) hn' ⟨v7, σ7, H7, (back I7).1, r7, n7⟩)
  exact loop m0 n 0 ys s₀ s2 σ H2 hn w0 ⟨acc0, cc0, r0, I2⟩ st2 fun b hb => (f2 b hb).1
end
end R49
set_option maxHeartbeats 4000000
/-! generators called with keywords; a generator that raises at its first item -/
namespace R49
open PySem PySem.Spec PyProof.Rows L2 GenW
section
variable {X : Cx} {k n : Nat} {f : Addr} {fd : FuncData} {ps ks : List Str} {sp : SpG} {E : XK} {x : Str} {p pos : Pos} {e : Expr} {es : List Expr} {kws : List Keyword} {t tk : TA} {g : List Value → List Value → List Value} {gV : List V → List V → List V}
theorem run_gfnN {pins : List (Addr × Obj)} {σ : L2.St} {H : Hp} {s : Shared} {us ws : List Value} {vs zs : List V} {cont : List V → Hp → Prop} {E1 : Value → Shared → Prop} (F : GFn X.prog X.w X.K X.mg X.base k f fd ps sp) (hr : Room k X.A) (hb : KBn X.K fd ps n ks g gV)
    (I : Inv X pins σ H s) (r : Vals vs us) (rz : Vals zs ws) (l1 : vs.length = n) (l2 : zs.length = ks.length) (h : sp (gV vs zs) H cont E) :
    wpAny (model X.prog X.w) X.A (call (.ref f) us (ks.zip ws)) (fun u s' => ∃ H1 sc ex, Inv X pins σ H1 sc ∧ ExOk X pins ex ∧ GMade X.prog X.w k X.stack H1 sc ex cont E u s') E1 s := by
  refine wpAny_call (codeAny_mono (F.run X.A X.stack s H ⟨us, ks.zip ws⟩ (g us ws) (gV vs zs) cont E hr I.env0 (hb.to s us ws I.kIn (r.length.symm.trans l1) (rz.length.symm.trans l2)) (hb.rel r rz) h) fun q s' hq => ?_)
  cases q with
  | error e => exact False.elim hq
  | ok fl =>
    cases fl with
    | ret u => exact ⟨H, s, [], I, .nil, hq⟩
    | next => exact False.elim hq
    | brk => exact False.elim hq
    | cont => exact False.elim hq
def tCallGN (n m : Nat) (sp : SpG) (gV : List V → List V → List V) (E : XK) (t tk : TA) : TGen := fun σ H cont => t σ H fun vs H1 => tk σ H1 fun zs H2 => vs.length = n ∧ zs.length = m ∧ sp (gV vs zs) H2 cont E
/-- f(e, .., k = v) of a generator def -/
theorem pgen_callN (F : GFn X.prog X.w X.K X.mg X.base k f fd ps sp) (hr : Room k X.A) (hg : Gl X x) (hm : X.mg x = some (.ref f)) (hk : PySem.W.keepIn X.K (.ref f) = true) (hb : KBn X.K fd ps n ks g gV)
    (ha : PA X (e :: es) t) (hkw : PK X kws tk) (hall : (backToKw pos (keywordEach kws X.env)).all (·.1.isSome) = true := by rfl) (hks : (backToKw pos (keywordEach kws X.env)).filterMap (·.1) = ks := by rfl)
    (hdb : (x == ("__debug__" : Str)) = false := by decide) (he : starEach (e :: es) X.env = (false, eval e X.env) :: starEach es X.env := by rfl)
    (hpl : ((backTo pos (starEach (e :: es) X.env)).any (·.1) || (backToKw pos (keywordEach kws X.env)).any (·.1.isNone)) = false := by rfl) :
    PGen X k (.Call (.Name x p) (e :: es) kws pos) (tCallGN n ks.length sp gV E t tk) E := by
  refine ⟨fun pins s σ H cont I h => ?_⟩
  refine wpAny_Call_Name_kw (ld_glob I hg hm ?_ hdb)
  refine PySem.W.callWith_KW (h₀ := X.base) I.ok.mod.kin hk hall (thn (ha.run pos pins s σ H _ I h) fun us s1 ⟨vs, H1, I1, r, q⟩ => ?_) hpl he
  refine thn (hkw.run pos pins s1 σ H1 _ I1 q) fun ws s2 ⟨zs, H2, I2, rz, l1, l2, q2⟩ => ⟨I2.kIn, ?_⟩
  rw [hks]
  exact run_gfnN F hr hb I2 r rz l1 l2 q2
end
/-! ### a generator that raises ahead of its first item -/
def RX (P : Program) (w : World) (outer : List Env) (H : Hp) (s : Shared) (a : Addr) (g : Nat) (E : XK) : GenEnd := fun _ _ r s1 => ∃ e, r = .error e ∧ CX P w outer H s E e s1 ∧ s1.heap.IsGen a g
def YNo : Protocol := fun _ _ _ _ _ => False
/-- what a call of such a def gives -/
def GMadeX (P : Program) (w : World) (k : Nat) (outer : List Env) (H : Hp) (s : Shared) (E : XK) (u : Value) (s' : Shared) : Prop :=
  ∃ (a : Addr) (g : Nat) (c : Code), u = .ref a ∧ s.heap.objs.size ≤ a ∧ a < s'.heap.objs.size ∧ s'.heap.IsGen a g ∧ s'.gens[g]? = some (.fresh c) ∧ s'.os = s.os ∧ AllBare s'.gens ∧ s'.heap.NoLimit ∧ (∀ b o, s.heap.get? b = some o → s'.heap.get? b = some o) ∧
    ∀ (A : Around) (s2 : Shared), Room k A → A.frames = some outer → (∀ b o, s'.heap.get? b = some o → s2.heap.get? b = some o) → s2.os = s.os → AllBare s2.gens →
      Seg (model P w) A (RX P w outer H s a g E) YNo 0 s2 c ((model P w).den c) [] s2
/-- its promise: the arguments, the heap, the exception -/
abbrev SpX := List V → Hp → XK → Prop
structure GFx (P : Program) (w : World) (K : PySem.W.Frag) (mg : Str → Option Value) (base : Heap) (k : Nat) (f : Addr) (fd : FuncData) (ps : List Str) (sp : SpX) : Prop where
  len : ∀ vs H E, sp vs H E → vs.length = ps.length
  run : ∀ (A : Around) (outer : List Env) (s : Shared) (H : Hp) (args : Args) (us : List Value) (vs : List V) (E : XK), Room k A → Env0 P w K mg base A outer s H → BindsTo s fd args (ps.zip us) → Vals vs us → sp vs H E →
    codeAny (model P w) A (.call (.ref f) args) (fun r s' => match r with | .ok (.ret u) => GMadeX P w k outer H s E u s' | _ => False) s
theorem gfx_of {P : Program} {w : World} {K : PySem.W.Frag} {mg : Str → Option Value} {base : Heap} {k : Nat} {f : Addr} {name qual : Str} {params : Arguments} {st1 st2 : Stmt} {rest : List Stmt} {scope : Scope} {dV kV doc pm cdv ct oc : Value} {an od : Option Addr}
    {osl : Array (Option Value)} {N ps : List Str} {sp : SpX} (lk : K.lookup f = some ⟨oc, od, .func (PySem.W.fnOf name qual params (st1 :: st2 :: rest) scope dV kV doc pm an cdv ct), osl⟩) (hcd : PySem.W.codeIn K cdv qual = true) (S : GScope N ps scope)
    (len : ∀ vs H E, sp vs H E → vs.length = ps.length)
    (hbody : ∀ (A : Around) (outer : List Env) (s : Shared) (H : Hp) (vs : List V) (E : XK) (pn : List (Addr × Obj)), Room k (A.deeper (envOfC qual scope s.heap.objs.size f cdv)) → sp vs H E →
      ∃ t1 t2, PS (gcxOf P w K mg base N qual scope f cdv A outer s H E pn) st1 t1 ∧ PS (gcxOf P w K mg base N qual scope f cdv A outer s H E pn) st2 t2 ∧
        t1 { nx := fun σ' H' => t2 { nx := fun _ _ => False, rt := fun _ _ => False } σ' H', rt := fun _ _ => False } (start N vs) H) :
    GFx P w K mg base (k + 1) f (PySem.W.fnOf name qual params (st1 :: st2 :: rest) scope dV kV doc pm an cdv ct) ps sp := by
  refine ⟨len, fun A outer s H args us vs E hr e0 hb r hsp => ?_⟩
  have hl := len _ _ _ hsp
  have KX : K.In s.heap := e0.mod.kin.keeps fun b o e => (e0.bs b o e).1
  have lim : s.heap.NoLimit := e0.mod.nolimit.keeps fun b o e => (e0.bs b o e).1
  have hkind : ∀ y ∈ ps.zip us, scope.names.lookup y.1 = some .local ∨ (scope.names.lookup y.1 = some .cell ∧ ((cellsFrom (s.heap.objs.size + 1) scope.names []).lookup y.1).isSome = true) := fun ⟨n, v⟩ hy => by
    rcases S.par n (List.of_mem_zip hy).1 with q | q
    · exact .inl q
    · exact .inr ⟨q, PySem.W.cellsFrom_some _ _ _ (.inl q)⟩
  refine codeAny_call_generator hr.depth (KX _ _ lk) rfl S.co S.gen rfl (PySem.W.codeRec_of KX hcd) (hb _ _ _ _ ?_)
  refine wpAny_newFunctionEnv_cells S.kind hkind fun env he s1 x => ?_
  subst he
  have lim1 : s1.heap.NoLimit := lim.keeps x.toInCall.keep
  refine ⟨lim1, ?_⟩
  obtain ⟨h1, tk, es1, hk1⟩ := x.done
  have os1 : s1.os = s.os := by rw [es1]
  have gen1 : s1.gens = s.gens := by rw [es1]
  have lt1 : s.heap.objs.size < s1.heap.objs.size := x.toInCall.ns.lt
  have kp1 : ∀ b o, s.heap.get? b = some o → s1.heap.get? b = some o := x.toInCall.keep
  have main : ∀ (go : Obj) (nm qn : Value) (tk2 : Nat), go.cls = .type "generator" → go.data = .fields #[.int s1.gens.size 0, nm, qn] → go.slots = #[] → (∀ h : Heap, (h.push go).get? h.objs.size = some go) →
      GMadeX P w (k + 1) outer H s E (.ref s1.heap.objs.size) { s1 with gens := s1.gens.push (.fresh (.func (st1 :: st2 :: rest) (envOfC qual scope s.heap.objs.size f cdv))), toks := tk2, heap := s1.heap.push go } := by
    intro go nm qn tk2 hgc hgd0 hgs hgp
    have hgen : ∀ h : Heap, h.get? s1.heap.objs.size = some go → h.IsGen s1.heap.objs.size s1.gens.size := fun h e => ⟨go, nm, qn, e, hgc, hgd0, hgs⟩
    have hpushed : (s1.heap.push go).get? s1.heap.objs.size = some go := hgp _
    refine ⟨s1.heap.objs.size, s1.gens.size, _, rfl, Nat.le_of_lt lt1, ?_, hgen _ hpushed, Array.getElem?_push_size .., os1, ?_, lim1.keeps fun b o e => Heap.get?_push_of_some _ e, fun b o e => Heap.get?_push_of_some _ (kp1 b o e), ?_⟩
    · show _ < (s1.heap.push _).objs.size
      rw [Heap.size_push]; exact Nat.lt_succ_self _
    · exact AllBare.push (by rw [gen1]; exact e0.bare) rfl
    intro Aw s2 hrw hfr hk2 hos hba
    have e0w : Env0 P w K mg base Aw outer s H := ⟨hfr, e0.mod, e0.bs, e0.bsz, e0.funs, e0.frf, e0.hok, e0.bare⟩
    obtain ⟨t1, t2, ht1, ht2, hq⟩ := hbody Aw outer s H vs E [(s1.heap.objs.size, go)] (hrw.deeper _) hsp
    have I1 : Inv (gcxOf P w K mg base N qual scope f cdv Aw outer s H E []) [] (start N vs) H s1 := inv_startG S hrw.hd e0w hl r x
    have kp2 : ∀ b o, s1.heap.get? b = some o → s2.heap.get? b = some o := fun b o e => hk2 b o (Heap.get?_push_of_some _ e)
    have I2 : Inv (gcxOf P w K mg base N qual scope f cdv Aw outer s H E []) [] (start N vs) H s2 :=
      I1.call' (ch := []) (hos.trans os1.symm) (Un.kept kp2) (I1.hok.kept kp2) hba fun b z => by simp at z
    have hea : s2.heap.get? s1.heap.objs.size = some go := hk2 s1.heap.objs.size go hpushed
    have hgd : ∀ v, go.data ≠ .cell v := fun v q => by rw [hgd0] at q; cases q
    have I3 : Inv (gcxOf P w K mg base N qual scope f cdv Aw outer s H E [(s1.heap.objs.size, go)]) [] (start N vs) H s2 := by
      refine Inv.pinnedG I2 fun p hp => ?_
      rcases List.mem_append.mp hp with z | z
      · rw [List.mem_singleton.mp z]
        exact ⟨hea, I1.hok.fresh (Nat.le_refl _), Nat.ne_of_gt lt1, I1.nofs (Nat.le_refl _), hgd⟩
      · exact absurd z (by simp)
    have bad : ∀ {σ' : L2.St} {H' : Hp} {s' : Shared} {fl : Flow}, SP (gcxOf P w K mg base N qual scope f cdv Aw outer s H E [(s1.heap.objs.size, go)]) [] { nx := fun _ _ => False, rt := fun _ _ => False } fl s' → False := fun {σ' H' s' fl} q => by
      cases fl with
      | next => obtain ⟨_, _, _, z⟩ := q; exact z
      | brk => obtain ⟨_, _, _, z⟩ := q; exact z
      | cont => obtain ⟨_, _, _, z⟩ := q; exact z
      | ret u => obtain ⟨_, _, _, _, _, z⟩ := q; exact z
    refine seg_func ?_
    have gone : ∀ (e : Value) (s' : Shared), (gcxOf P w K mg base N qual scope f cdv Aw outer s H E [(s1.heap.objs.size, go)]).xe e s' → Seg (model P w) Aw (RX P w outer H s s1.heap.objs.size s1.gens.size E) YNo 0 s2 (.func (st1 :: st2 :: rest) (envOfC qual scope s.heap.objs.size f cdv))
        ((leaving (envOfC qual scope s.heap.objs.size f cdv) e).wrap (fun _ => .raise e) .raise id id) [] s' := fun e s' hx => by
      refine seg_wrap ?_
      rw [over_func]
      refine wpAny_mono (show wpAny (model P w) (Aw.deeper (envOfC qual scope s.heap.objs.size f cdv)) (leaving (envOfC qual scope s.heap.objs.size f cdv) e) (fun _ s'' => CX P w outer H s E e s'' ∧ ∀ p ∈ [(s1.heap.objs.size, go)], s''.heap.get? p.1 = some p.2) (fun _ _ => False) s' from hx) (fun _ s'' q => ?_) fun _ s'' q => q.elim
      exact seg_end (.error e) ⟨e, rfl, q.1, hgen _ (q.2 (s1.heap.objs.size, go) (List.mem_singleton.mpr rfl))⟩
    refine seg_execs_cons (seg_wrap ?_)
    rw [over_func]
    refine wpAny_mono (ht1.run [] s2 (start N vs) H _ I3 hq) (fun fl s3 h3 => ?_) fun e s' hx => gone e s' hx
    cases fl with
    | next =>
      obtain ⟨σ3, H3, I4, q3⟩ := h3
      refine seg_execs_cons (seg_wrap ?_)
      rw [over_func]
      exact wpAny_mono (ht2.run [] s3 σ3 H3 _ I4 q3) (fun fl s4 h4 => (bad (σ' := σ3) (H' := H3) h4).elim) fun e s' hx => gone e s' hx
    | brk => obtain ⟨_, _, _, z⟩ := h3; exact z.elim
    | cont => obtain ⟨_, _, _, z⟩ := h3; exact z.elim
    | ret u => obtain ⟨_, _, _, _, _, z⟩ := h3; exact z.elim
  exact main _ _ _ _ rfl rfl rfl fun h => Heap.get?_push_size _ rfl
section
variable {X : Cx} {k : Nat} {f : Addr} {fd : FuncData} {ps : List Str} {sp : SpX} {E : XK} {dvs : List V} {ds : List Value}
/-- for .. in f(e, ..): the generator raises ahead of its first item -/
theorem ps_forX {tg e : Expr} {es : List Expr} {body : List Stmt} {x : Str} {p cpos pos : Pos} {t : TA} (hp : PassesOwn (model X.prog X.w) X.A X.env X.xe) (F : GFx X.prog X.w X.K X.mg X.base k f fd ps sp) (hr : Room (k + 1) X.A) (hg : Gl X x) (hm : X.mg x = some (.ref f)) (hk : PySem.W.keepIn X.K (.ref f) = true)
    (hb : Binds X.K fd ps ds) (hd : Vals dvs ds) (hx : Passes (CX X.prog X.w) X E) (hns : NoStop X.K E) (ha : PA X (e :: es) t)
    (hs : ∀ y, foldedSetIterable (.Call (.Name x p) (e :: es) [] cpos) X.env y = pure y := by intro _; rfl) (hdb : (x == ("__debug__" : Str)) = false := by decide)
    (he : starEach (e :: es) X.env = (false, eval e X.env) :: starEach es X.env := by rfl) (hpl : (backTo cpos (starEach es X.env)).any (·.1) = false := by rfl) :
    PS X (.For tg (.Call (.Name x p) (e :: es) [] cpos) body [] pos) (fun _ σ H => t σ H fun vs H1 => sp (vs ++ dvs) H1 E) := by
  refine ⟨fun pins s σ H D I h => ?_⟩
  refine wpAny_For ?_ hs
  refine wpAny_Call_Name_kw (ld_glob I hg hm ?_ hdb)
  refine PySem.W.callWith_K (h₀ := X.base) I.ok.mod.kin hk (thn (ha.run cpos pins s σ H _ I h) fun us s1 ⟨vs, H1, I1, r, q⟩ => ⟨I1.kIn, ?_⟩) he hpl
  have r2 : Vals (vs ++ dvs) (us ++ ds) := r.append hd
  have hl2 : (us ++ ds).length = ps.length := by rw [← r2.length]; exact F.len _ _ _ q
  refine wpAny_call (codeAny_mono (F.run X.A X.stack s1 H1 ⟨us, []⟩ (us ++ ds) (vs ++ dvs) E (hr.mono (Nat.le_succ _)) I1.env0 (hb s1 us I1.kIn hl2) r2 q) fun fl s2 hq => ?_)
  cases fl with
  | error e => exact False.elim hq
  | ok fl =>
    cases fl with
    | next => exact False.elim hq
    | brk => exact False.elim hq
    | cont => exact False.elim hq
    | ret u =>
      obtain ⟨a, g, c, rfl, ha1, ha2, hgn, hgs, hos, hbr, hl, hkp, wake⟩ := hq
      refine wpAny_pyIter_gen hgn ?_
      refine codeAny_forLoop_any (fun _ s' => s' = s2) (fun n s' es' => ?_) 0 rfl
      subst es'
      refine wpAny_passesOwn hp ?_
      refine next_genG (n := 0) (F := fun _ _ _ => False) (Er := fun e s1' => CX X.prog X.w X.stack H1 s1 E e s1' ∧ s1'.heap.IsGen a g) (Y := YNo) hr.hd hl hr.depth hgn hgs ?_ (fun _ _ _ _ hv => False.elim hv) (fun _ z => False.elim z) fun e s3 he' => ?_
      · refine ⟨rfl, ?_⟩
        refine seg_imp (fun n s₀ r s h => ?_) (fun n s₀ v s kap kap' _ h => h) 0 (wake X.A.in1 (s'.setGen g .running) hr.in1 I1.ok.frames (fun b o e => e) hos (allBare_setGen hbr rfl))
        obtain ⟨e, e1, e2, e3⟩ := h
        exact .inr ⟨e, e1, e2, e3⟩
      · obtain ⟨hc, hg1⟩ := he'
        have kin : X.K.In s3.heap := by
          obtain ⟨a, B, H', cls, d, _, fl, _, ub, _⟩ := id hc
          refine I1.ok.mod.kin.keeps fun b o eb => fl.1 b o (ub.keep b o (I1.bs b o eb).1 (I1.bs b o eb).2 fun hm => ?_)
          rcases List.mem_cons.mp (I1.stkSub b hm) with z | z
          · have h1 := Heap.lt_size eb
            have h2 := Nat.le_trans I1.ok.bsz I1.ok.above
            rw [z] at h1
            exact absurd (Nat.lt_of_lt_of_le h1 h2) (Nat.lt_irrefl _)
          · exact I1.ok.nofr eb z
        refine ⟨hg1, notStop_of hns kin hc, hx pins σ H1 s1 e _ I1 ?_⟩
        obtain ⟨a, B, H', cls, d, z1, fl, z2, ub, z3, z4, z5, z6⟩ := hc
        exact ⟨a, B, H', cls, d, z1, fl, z2, ub, z3, z4, allBare_setGen z5 rfl, z6⟩
end
end R49
/-! what the promises speak of -/
namespace R49
open PySem L2
/-- the number at a tick -/
def numAt (fs ps : List Int) (t : Nat) : Int := if t < fs.length then fs.getD t 0 else ps.getD ((t - fs.length) % ps.length) 0
/-- a timetable's attributes -/
def tmF (a b : Addr) : List (Str × V) := [("front", .ref a), ("period", .ref b)]
theorem tmF_front (a b : Addr) : (tmF a b).lookup ("front" : Str) = some (.ref a) := by
  have e : (("front" : Str) == ("front" : Str)) = true := by decide
  simp only [tmF, List.lookup, e]
theorem tmF_period (a b : Addr) : (tmF a b).lookup ("period" : Str) = some (.ref b) := by
  have e : (("period" : Str) == ("front" : Str)) = false := by decide
  have e2 : (("period" : Str) == ("period" : Str)) = true := by decide
  simp only [tmF, List.lookup, e, e2]
theorem tmF_no (a b : Addr) {m : Str} (h1 : (m == ("front" : Str)) = false) (h2 : (m == ("period" : Str)) = false) : (tmF a b).lookup m = none := by
  simp only [tmF, List.lookup, h1, h2]
/-- a timetable stands at p -/
def TimesAt (C : Addr) (H : Hp) (p : Addr) (fs ps : List Int) : Prop := ∃ dx a b, H p = some (.ins C dx (tmF a b)) ∧ H a = some (.lst (fs.map V.int)) ∧ H b = some (.lst (ps.map V.int))
theorem TimesAt.same {C : Addr} {H H' : Hp} {p : Addr} {fs ps : List Int} (h : TimesAt C H p fs ps) (s : ∀ b o, H b = some o → (∀ ps, o ≠ .tbl ps) → H' b = some o) : TimesAt C H' p fs ps := by
  obtain ⟨dx, a, b, h1, h2, h3⟩ := h
  exact ⟨dx, a, b, s _ _ h1 (fun _ z => by cases z), s _ _ h2 (fun _ z => by cases z), s _ _ h3 (fun _ z => by cases z)⟩
/-- number_at's promise -/
def spNum (K : PySem.W.Frag) : Sp := fun vs H Q _ => ∃ (a b : Addr) (fs ps : List Int) (t : Nat), vs = [.ref a, .ref b, .int t] ∧ SqL K H a (fs.map V.int) ∧ SqL K H b (ps.map V.int) ∧ ps ≠ [] ∧ Q (.int (numAt fs ps t)) H
end R49
set_option maxHeartbeats 4000000
/-! a timetable's ticks: a generator without end, state by state -/
namespace R49
open PySem PySem.Spec PyProof.Rows L2 GenW
/-- all is kept; of the frames all but the slots -/
def KeepF (fs : List Addr) (h h' : Heap) : Prop := ∀ x o, h.get? x = some o → (x ∉ fs → h'.get? x = some o) ∧ (x ∈ fs → ∃ sl, h'.get? x = some { o with slots := sl })
theorem KeepF.refl {fs : List Addr} {h : Heap} : KeepF fs h h := fun x o e => ⟨fun _ => e, fun _ => ⟨o.slots, e⟩⟩
theorem KeepF.of {fs : List Addr} {h h' : Heap} (k : ∀ x o, h.get? x = some o → h'.get? x = some o) : KeepF fs h h' := fun x o e => ⟨fun _ => k x o e, fun _ => ⟨o.slots, k x o e⟩⟩
theorem KeepF.trans {fs : List Addr} {h h1 h2 : Heap} (a : KeepF fs h h1) (b : KeepF fs h1 h2) : KeepF fs h h2 := fun x o e => by
  refine ⟨fun hx => (b x o ((a x o e).1 hx)).1 hx, fun hx => ?_⟩
  obtain ⟨sl, e1⟩ := (a x o e).2 hx
  obtain ⟨sl2, e2⟩ := (b x _ e1).2 hx
  exact ⟨sl2, e2⟩
theorem KeepF.ns {fs : List Addr} {h h' : Heap} {L : Addr} {m : Str → Option Value} (k : KeepF fs h h') (n : h.Ns L m) : h'.Ns L m := by
  obtain ⟨o, es, ep, ho, r⟩ := n
  by_cases hx : L ∈ fs
  · obtain ⟨sl, e⟩ := (k L o ho).2 hx
    exact ⟨_, es, ep, e, r⟩
  · exact ⟨o, es, ep, (k L o ho).1 hx, r⟩
section
variable {P : Program} {w : World} {K : PySem.W.Frag} {mg : Str → Option Value} {base : Heap} {k : Nat} {fN fT C p L : Addr} {fdN : FuncData} {outer : List Env} {qual : Str} {scope : Scope} {cdv : Value} {fs ps : List Int}
/-- what the walk of ticks' body asks of its text -/
structure TkS (scope : Scope) : Prop where
  kind : scope.kind = .function
  co : scope.isCoroutine = false
  self : scope.names.lookup ("self" : Str) = some NameKind.local
  start : scope.names.lookup ("start" : Str) = some NameKind.local
  tick : scope.names.lookup ("tick" : Str) = some NameKind.local
  num : scope.names.lookup ("number_at" : Str) = some NameKind.globalImplicit
/-- what it asks of the top -/
structure TkT (P : Program) (w : World) (K : PySem.W.Frag) (mg : Str → Option Value) (base : Heap) (k : Nat) (fN C : Addr) (fdN : FuncData) : Prop where
  mod : L2.Mod K mg base
  cl : Cls K C
  nF : NoAttr K C "front"
  nP : NoAttr K C "period"
  gN : mg "number_at" = some (.ref fN)
  kN : PySem.W.keepIn K (.ref fN) = true
  FN : FnOk P w K mg base CX0 k fN fdN ["front", "period", "tick"] (spNum K)
  bN : Binds K fdN ["front", "period", "tick"] []
/-- the state at a wake: H is any abstract heap that is held there -/
structure TkAt (P : Program) (w : World) (mg : Str → Option Value) (base : Heap) (outer : List Env) (C p L : Addr) (fs ps : List Int) (s : Shared) : Prop where
  ex : ∃ H : Hp, (∀ b o, base.get? b = some o → s.heap.get? b = some o ∧ H b = none) ∧ base.objs.size ≤ L ∧ s.heap.FunFrames base outer ∧ (∀ b ∈ frs outer, H b = none) ∧ HOk P w H s.heap ∧ AllBare s.gens ∧ TimesAt C H p fs ps ∧ H L = none
abbrev gEnv (qual : Str) (scope : Scope) (L fT : Addr) (cdv : Value) : Env := envOfC qual scope L fT cdv
theorem kind_of (qual : Str) (scope : Scope) (L fT : Addr) (cdv : Value) (x : Str) : (gEnv qual scope L fT cdv).kindOf x = scope.names.lookup x := rfl
/-- eval of a local name -/
theorem ld_loc {A : Around} {E : Value → Shared → Prop} {s : Shared} {m : Str → Option Value} {x : Str} {v : Value} {pos : Pos} {Q : Value → Shared → Prop} (T : TkS scope) (hk : scope.names.lookup x = some NameKind.local) (hn : s.heap.Ns L m) (hv : m x = some v) (h : Q v s)
    (hd : (x == ("__debug__" : Str)) = false := by decide) : wpAny (model P w) A (eval (.Name x pos) (gEnv qual scope L fT cdv)) Q E s :=
  wpAny_Name (wpAny_loadName_local T.kind hk hn hv h) hd
/-- self.front, self.period -/
theorem ld_fld {A : Around} {E : Value → Shared → Prop} {s : Shared} {H : Hp} {m : Str → Option Value} {x : Str} {a dx : Addr} {gs : List (Str × V)} {p1 p2 : Pos} {Q : Value → Shared → Prop} (T : TkS scope) (T2 : TkT P w K mg base k fN C fdN) (hn : s.heap.Ns L m) (hs : m ("self" : Str) = some (.ref p))
    (kin : K.In s.heap) (hok : HOk P w H s.heap) (hp : H p = some (.ins C dx gs)) (na : NoAttr K C x) (hl : gs.lookup x = some (.ref a)) (h : Q (.ref a) { s with toks := s.toks + 1 })
    (hb : attributeBase (.Name "self" p1) x (gEnv qual scope L fT cdv) (eval (.Name "self" p1) (gEnv qual scope L fT cdv)) = eval (.Name "self" p1) (gEnv qual scope L fT cdv)) :
    wpAny (model P w) A (eval (.Attribute (.Name "self" p1) x p2) (gEnv qual scope L fT cdv)) Q E s := by
  refine attr_of hb (ld_loc T T.self hn hs ?_)
  obtain ⟨mA, O, r, _⟩ := ins_get hok hp
  obtain ⟨u, hu, ru⟩ := RelO.some_of (v := .ref a) (o := mA x) (by rw [← hl]; exact r x)
  cases (show u = Value.ref a from ru)
  exact get_map kin O (T2.cl.get x) T2.cl.hd na hu rfl h
/-- tick, number_at(self.front, self.period, tick) -/
theorem tk_eval {A : Around} {E : Value → Shared → Prop} {s : Shared} {m : Str → Option Value} {t : Nat} {tt : Tok} {p1 p2 p3 p4 p5 p6 p7 p8 p9 : Pos} {x1} {Q : Value → Shared → Prop} (T : TkS scope) (T2 : TkT P w K mg base k fN C fdN) (hps : ps ≠ [])
    (hr : Room k A) (hfr : A.frames = some (gEnv qual scope L fT cdv :: outer)) (Z : TkAt P w mg base outer C p L fs ps s) (hn : s.heap.Ns L m) (hs : m ("self" : Str) = some (.ref p)) (ht : m ("tick" : Str) = some (.int t tt))
    (hb1 : attributeBase (.Name "self" p3) "front" (gEnv qual scope L fT cdv) (eval (.Name "self" p3) (gEnv qual scope L fT cdv)) = eval (.Name "self" p3) (gEnv qual scope L fT cdv))
    (hb2 : attributeBase (.Name "self" p5) "period" (gEnv qual scope L fT cdv) (eval (.Name "self" p5) (gEnv qual scope L fT cdv)) = eval (.Name "self" p5) (gEnv qual scope L fT cdv))
    (h : ∀ (s1 : Shared) (t1 t2 : Tok), KeepF (L :: frs outer) s.heap s1.heap → s1.os = s.os → AllBare s1.gens → Q (.ref s1.heap.objs.size) { s1 with heap := s1.heap.push { cls := .type "tuple", data := .seq [.int t t1, .int (numAt fs ps t) t2].toArray } }) :
    wpAny (model P w) A (eval (.Tuple [.Name "tick" p1, .Call (.Name "number_at" p2) [.Attribute (.Name "self" p3) "front" p4, .Attribute (.Name "self" p5) "period" p6, .Name "tick" p7] [] p8] x1 p9) (gEnv qual scope L fT cdv)) Q E s := by
  obtain ⟨H, hbs, hbz, hfu, hff, hok, hba, tm, hL⟩ := Z.ex
  obtain ⟨dx, a, b, hp, ha, hb⟩ := tm
  have kin : K.In s.heap := T2.mod.kin.keeps fun b o e => (hbs b o e).1
  have eF : frs (gEnv qual scope L fT cdv :: outer) = L :: frs outer := rfl
  refine wpAny_Tuple_spliced ?_
  refine Calls.spliced_cons (ld_loc T T.tick hn ht ?_)
  refine Calls.spliced_cons (wpAny_Call_Name_kw (Calls.Name_function_global T.kind T.num (Calls.loadGlobal_global (show s.heap.Ns mainGlobals mg from T2.mod.glob.keeps fun b o e => (hbs b o e).1) T2.gN ?_)))
  refine PySem.W.callWith_K (h₀ := base) T2.mod.kin T2.kN ?_
  refine Calls.spliced_cons (ld_fld T T2 hn hs kin hok hp T2.nF (tmF_front a b) ?_ hb1)
  refine Calls.spliced_cons (ld_fld T T2 hn hs kin hok hp T2.nP (tmF_period a b) ?_ hb2)
  refine Calls.spliced_cons (ld_loc T T.tick hn ht ?_)
  refine Calls.spliced_nil ⟨kin, ?_⟩
  -- the two lists as they stand
  obtain ⟨za, itsA, nA, rA, ea⟩ := (show ObjOk P w H s.heap a (.lst (fs.map V.int)) from hok a _ ha)
  obtain ⟨zb, itsB, nB, rB, eb⟩ := (show ObjOk P w H s.heap b (.lst (ps.map V.int)) from hok b _ hb)
  let G : Hp := fun x => if x = a then some (.frz { cls := .type "list", data := .seq itsA.toArray nA } (.lst (fs.map V.int))) else if x = b then some (.frz { cls := .type "list", data := .seq itsB.toArray nB } (.lst (ps.map V.int))) else none
  have Ga : G a = some (.frz { cls := .type "list", data := .seq itsA.toArray nA } (.lst (fs.map V.int))) := if_pos rfl
  have Gn : ∀ x, H x = none → G x = none := fun x e => by
    have n1 : x ≠ a := fun z => by rw [z, ha] at e; cases e
    have n2 : x ≠ b := fun z => by rw [z, hb] at e; cases e
    show (if x = a then _ else if x = b then _ else none) = none
    rw [if_neg n1, if_neg n2]
  have Gb : SqL K G b (ps.map V.int) ∧ ObjOk P w G s.heap b (.lst (ps.map V.int)) := by
    refine ⟨.inl (.inr ?_), ⟨zb, itsB, nB, rB, eb⟩⟩
    by_cases q : b = a
    · have e2 : HO.lst (ps.map V.int) = HO.lst (fs.map V.int) := Option.some.inj (hb.symm.trans (by rw [q]; exact ha))
      have e3 : ps.map V.int = fs.map V.int := by injection e2
      rw [e3]
      exact ⟨_, by show (if b = a then _ else _) = _; rw [if_pos q]⟩
    · exact ⟨_, by show (if b = a then _ else if b = b then _ else _) = _; rw [if_neg q, if_pos rfl]⟩
  have Gok : HOk P w G s.heap := fun x u e => by
    by_cases q : x = a
    · subst q
      rw [Ga] at e; cases e
      exact ⟨ea, za, itsA, nA, rA, ea⟩
    · by_cases q2 : x = b
      · subst q2
        have e' : (if x = a then _ else if x = x then some (HO.frz { cls := .type "list", data := .seq itsB.toArray nB } (.lst (ps.map V.int))) else none) = some u := e
        rw [if_neg q, if_pos rfl] at e'
        cases e'
        exact ⟨eb, zb, itsB, nB, rB, eb⟩
      · have e' : (if x = a then _ else if x = b then _ else none) = some u := e
        rw [if_neg q, if_neg q2] at e'
        cases e'
  have hLb : base.get? L = none := Heap.get?_none_of_le hbz
  have e0 : Env0 P w K mg base A (gEnv qual scope L fT cdv :: outer) { s with toks := s.toks + 1 + 1 } G :=
    ⟨hfr, T2.mod, fun x o e => ⟨(hbs x o e).1, Gn x (hbs x o e).2⟩, Nat.le_of_lt (Nat.lt_of_le_of_lt hbz hn.lt), .cons (by rw [show (gEnv qual scope L fT cdv).scope.kind = .function from T.kind]; decide) rfl hn hLb hfu,
      fun x hx => by
        rcases List.mem_cons.mp (show x ∈ L :: frs outer from hx) with z | z
        · rw [z]; exact Gn L hL
        · exact Gn x (hff x z), Gok, hba⟩
  have hbd := T2.bN { s with toks := s.toks + 1 + 1 } [.ref a, .ref b, .int t tt] kin rfl
  refine wpAny_call (codeAny_mono (T2.FN.run A _ { s with toks := s.toks + 1 + 1 } G ⟨[.ref a, .ref b, .int t tt], []⟩ _ [.ref a, .ref b, .int t] (fun v H' => v = .int (numAt fs ps t) ∧ H' = G) (fun _ _ _ => False) hr e0 hbd (.cons rfl (.cons rfl (.cons ⟨tt, rfl⟩ .nil)))
    ⟨a, b, fs, ps, t, rfl, .inl (.inr ⟨_, Ga⟩), Gb.1, hps, rfl, rfl⟩) fun r s1 hq => ?_)
  cases r with
  | error e => exact (show False from hq).elim
  | ok fl =>
    cases fl with
    | next => exact False.elim hq
    | brk => exact False.elim hq
    | cont => exact False.elim hq
    | ret u =>
      obtain ⟨v, H', os1, ba1, un1, ok1, rv, ev, eH⟩ := hq
      subst ev
      subst eH
      obtain ⟨tu, rfl⟩ := (show ∃ tu, u = Value.int (numAt fs ps t) tu from rv)
      refine Calls.spliced_nil ⟨by show 2 ≤ sizeLine; rw [sizeLine_eq]; decide, ?_⟩
      have kf : KeepF (L :: frs outer) s.heap s1.heap := fun x o e => by
        by_cases q : G x = none
        · exact ⟨fun hx => un1.keep x o e q hx (by simp), fun hx => un1.slot x o e q hx (by simp)⟩
        · have key : s1.heap.get? x = some o := by
            by_cases q1 : x = a
            · subst q1
              obtain ⟨z1, _⟩ := ok1 x _ (un1.frzs x _ _ Ga)
              have z2 : s.heap.get? x = _ := ea
              rw [z2] at e; cases e
              exact z1
            · by_cases q2 : x = b
              · subst q2
                have gx : G x = some (.frz { cls := .type "list", data := .seq itsB.toArray nB } (.lst (ps.map V.int))) := by
                  show (if x = a then _ else if x = x then _ else none) = _
                  rw [if_neg q1, if_pos rfl]
                obtain ⟨z1, _⟩ := ok1 x _ (un1.frzs x _ _ gx)
                have z2 : s.heap.get? x = _ := eb
                rw [z2] at e; cases e
                exact z1
              · exact absurd (show (if x = a then _ else if x = b then _ else none) = none by rw [if_neg q1, if_neg q2]) q
          exact ⟨fun _ => key, fun _ => ⟨o.slots, key⟩⟩
      exact h s1 tt tu kf os1 ba1
/-- all but L is kept; of the frames all but the slots -/
def KeepL (L : Addr) (fs : List Addr) (h h' : Heap) : Prop := ∀ x o, x ≠ L → h.get? x = some o → (x ∉ fs → h'.get? x = some o) ∧ (x ∈ fs → ∃ sl, h'.get? x = some { o with slots := sl })
theorem KeepL.refl {L : Addr} {fs : List Addr} {h : Heap} : KeepL L fs h h := fun x o _ e => ⟨fun _ => e, fun _ => ⟨o.slots, e⟩⟩
theorem KeepL.of {L : Addr} {fs : List Addr} {h h' : Heap} (k : ∀ x o, x ≠ L → h.get? x = some o → h'.get? x = some o) : KeepL L fs h h' := fun x o n e => ⟨fun _ => k x o n e, fun _ => ⟨o.slots, k x o n e⟩⟩
theorem KeepL.trans {L : Addr} {fs : List Addr} {h h1 h2 : Heap} (a : KeepL L fs h h1) (b : KeepL L fs h1 h2) : KeepL L fs h h2 := fun x o n e => by
  refine ⟨fun hx => (b x o n ((a x o n e).1 hx)).1 hx, fun hx => ?_⟩
  obtain ⟨sl, e1⟩ := (a x o n e).2 hx
  obtain ⟨sl2, e2⟩ := (b x _ n e1).2 hx
  exact ⟨sl2, e2⟩
theorem KeepF.toL {L : Addr} {fs : List Addr} {h h' : Heap} (k : KeepF (L :: fs) h h') : KeepL L fs h h' := fun x o n e =>
  ⟨fun hx => (k x o e).1 fun z => (List.mem_cons.mp z).elim n hx, fun hx => (k x o e).2 (List.mem_cons_of_mem _ hx)⟩
theorem funFrames_keep {base h h' : Heap} : ∀ {l : List Env}, (∀ b ∈ frs l, ∀ o, h.get? b = some o → h'.get? b = some o) → h.FunFrames base l → h'.FunFrames base l
  | [], _, _ => trivial
  | env :: r, k, x => by
    obtain ⟨h1, ⟨L, o, e1, e2, e3, e4⟩, h3⟩ := x
    have hL : L ∈ frs (env :: r) := by unfold frs; rw [List.filterMap_cons, e1]; exact List.mem_cons_self
    refine ⟨h1, ⟨L, o, e1, e2, k L hL o e3, e4⟩, funFrames_keep (fun b hb o e => k b ?_ o e) h3⟩
    unfold frs; rw [List.filterMap_cons, e1]; exact List.mem_cons_of_mem _ hb
/-- its frame alone has changed -/
theorem TkAt.frame {s s' : Shared} (Z : TkAt P w mg base outer C p L fs ps s) (hLo : L ∉ frs outer) (hs : Heap.SameBut L s.heap s'.heap) (hg : s'.gens = s.gens) : TkAt P w mg base outer C p L fs ps s' := by
  obtain ⟨H, hbs, hbz, hfu, hff, hok, hba, tm, hL⟩ := Z.ex
  refine ⟨H, fun b o e => ⟨?_, (hbs b o e).2⟩, hbz, funFrames_keep (fun b hb o e => (hs.2 b fun z => hLo (z ▸ hb)).trans e) hfu, hff, fun b u e => ?_, by rw [hg]; exact hba, tm, hL⟩
  · have nb : b ≠ L := Nat.ne_of_lt (Nat.lt_of_lt_of_le (Heap.lt_size e) hbz)
    exact (hs.2 b nb).trans (hbs b o e).1
  · refine (hok b u e).stay (fun c v hc q => (hs.2 c ?_).trans q) (fun _ q => q) fun _ _ q => q
    rintro rfl
    rcases hc with rfl | hc
    · rw [hL] at e; cases e
    · rw [hL] at hc; cases hc
/-- its frame's names -/
def TkM (L p : Addr) (x : Str) (t : Nat) (h : Heap) : Prop := ∃ m, h.Ns L m ∧ m ("self" : Str) = some (.ref p) ∧ ∃ tt, m x = some (.int t tt)
def YTk (P : Program) (w : World) (mg : Str → Option Value) (base : Heap) (outer : List Env) (C p L : Addr) (fs ps : List Int) (c : Nat) : Protocol := fun m s₀ v s kap =>
  ∃ (s1 : Shared) (t : Nat) (t1 t2 : Tok), t + m = c ∧ KeepL L (frs outer) s₀.heap s1.heap ∧ s1.os = s₀.os ∧ AllBare s1.gens ∧ v = .ref s1.heap.objs.size ∧ s = { s1 with heap := s1.heap.push { cls := .type "tuple", data := .seq [.int t t1, .int (numAt fs ps t) t2].toArray } } ∧
    TkM L p "tick" t s1.heap ∧ ∀ s'', m ≠ 0 → TkAt P w mg base outer C p L fs ps s'' → TkM L p "tick" t s''.heap → kap (.send .none) s''
def RTk : GenEnd := fun _ _ _ _ => False
/-- the text of ticks' body -/
abbrev tkTup (p1 p2 p3 p4 p5 p6 p7 p8 p9 : Pos) (x1 : Nat) : Expr := .Tuple [.Name "tick" p1, .Call (.Name "number_at" p2) [.Attribute (.Name "self" p3) "front" p4, .Attribute (.Name "self" p5) "period" p6, .Name "tick" p7] [] p8] x1 p9
abbrev tkBody (p1 p2 p3 p4 p5 p6 p7 p8 p9 q1 q2 q3 q4 q5 : Pos) (x1 j2 : Nat) : List Stmt := [.Expr (.Yield (some (tkTup p1 p2 p3 p4 p5 p6 p7 p8 p9 x1)) q1) q2, .AugAssign (.Name "tick" q3) .Add (.Constant (.int 1) j2 q4) q5]
abbrev tkSts (p1 p2 p3 p4 p5 p6 p7 p8 p9 q1 q2 q3 q4 q5 r1 r2 r3 r4 r5 : Pos) (x1 j2 j1 : Nat) : List Stmt :=
  [.Assign [.Name "tick" r1] (.Name "start" r2) r3, .While (.Constant (.bool true) j1 r4) (tkBody p1 p2 p3 p4 p5 p6 p7 p8 p9 q1 q2 q3 q4 q5 x1 j2) [] r5]
theorem tk_loop {A : Around} {p1 p2 p3 p4 p5 p6 p7 p8 p9 q1 q2 q3 q4 q5 r4 : Pos} {x1 j2 j1 : Nat} {c : Nat} {fr : Frame} (T : TkS scope) (T2 : TkT P w K mg base k fN C fdN) (hps : ps ≠ []) (hLo : L ∉ frs outer)
    (hr : Room k (A.over (.whileLoop (.Constant (.bool true) j1 r4) (tkBody p1 p2 p3 p4 p5 p6 p7 p8 p9 q1 q2 q3 q4 q5 x1 j2) [] (gEnv qual scope L fT cdv)) [fr])) (hfr : (A.over (.whileLoop (.Constant (.bool true) j1 r4) (tkBody p1 p2 p3 p4 p5 p6 p7 p8 p9 q1 q2 q3 q4 q5 x1 j2) [] (gEnv qual scope L fT cdv)) [fr]).frames = some (gEnv qual scope L fT cdv :: outer))
    (hsp : splitAtGen [fr] = none) (hgd : [fr].any Frame.guarded = false)
    (hb1 : attributeBase (.Name "self" p3) "front" (gEnv qual scope L fT cdv) (eval (.Name "self" p3) (gEnv qual scope L fT cdv)) = eval (.Name "self" p3) (gEnv qual scope L fT cdv))
    (hb2 : attributeBase (.Name "self" p5) "period" (gEnv qual scope L fT cdv) (eval (.Name "self" p5) (gEnv qual scope L fT cdv)) = eval (.Name "self" p5) (gEnv qual scope L fT cdv))
    (hin : interactive (gEnv qual scope L fT cdv) = false) :
    ∀ (n : Nat) (s₀ s : Shared) (t : Nat), t + n = c → KeepL L (frs outer) s₀.heap s.heap → s.os = s₀.os → TkAt P w mg base outer C p L fs ps s → TkM L p "tick" t s.heap →
      Seg (model P w) A RTk (YTk P w mg base outer C p L fs ps c) (n + 1) s₀ (.whileLoop (.Constant (.bool true) j1 r4) (tkBody p1 p2 p3 p4 p5 p6 p7 p8 p9 q1 q2 q3 q4 q5 x1 j2) [] (gEnv qual scope L fT cdv))
        ((model P w).den (.whileLoop (.Constant (.bool true) j1 r4) (tkBody p1 p2 p3 p4 p5 p6 p7 p8 p9 q1 q2 q3 q4 q5 x1 j2) [] (gEnv qual scope L fT cdv))) [fr] s := by
  intro n
  induction n with
  | zero =>
    intro s₀ s t ht kp hos Z M
    obtain ⟨m, hn, hs, tt, hm⟩ := M
    refine seg_whileLoop (isTrue_plain (Constant_bool (wpAny_truthy_bool ?_)))
    rw [if_pos rfl]
    refine seg_execs_cons (seg_Expr_Yield hsp rfl hgd (wpAny_mono (tk_eval (E := fun _ _ => False) T T2 hps hr hfr Z hn hs hm hb1 hb2 fun s1 t1 t2 kf os1 ba => ?_) (fun _ _ z => z) fun _ _ z => z.elim) T.co hin)
    intro kap hk
    exact ⟨s1, t, t1, t2, ht, kp.trans kf.toL, os1.trans hos, ba, rfl, rfl, ⟨m, kf.ns hn, hs, tt, hm⟩, fun s'' hz _ _ => absurd rfl hz⟩
  | succ n ih =>
    intro s₀ s t ht kp hos Z M
    obtain ⟨m, hn, hs, tt, hm⟩ := M
    refine seg_whileLoop (isTrue_plain (Constant_bool (wpAny_truthy_bool ?_)))
    rw [if_pos rfl]
    refine seg_execs_cons (seg_Expr_Yield hsp rfl hgd (wpAny_mono (tk_eval (E := fun _ _ => False) T T2 hps hr hfr Z hn hs hm hb1 hb2 fun s1 t1 t2 kf os1 ba => ?_) (fun _ _ z => z) fun _ _ z => z.elim) T.co hin)
    intro kap hk
    refine ⟨s1, t, t1, t2, ht, kp.trans kf.toL, os1.trans hos, ba, rfl, rfl, ⟨m, kf.ns hn, hs, tt, hm⟩, fun s'' _ Z2 M2 => hk .none s'' ?_⟩
    obtain ⟨m2, hn2, hs2, tt2, hm2⟩ := M2
    -- tick += 1
    refine seg_execs_cons (seg_wrap (wpAny_mono (Q := fun f s3 => f = .next ∧ s3.os = s''.os ∧ s3.gens = s''.gens ∧ Heap.SameBut L s''.heap s3.heap ∧ TkM L p "tick" (t + 1) s3.heap) (E := fun _ _ => False) ?_ (fun f s3 h3 => ?_) fun _ _ z => z.elim))
    · refine wpAny_AugAssign_Name (wpAny_loadName_local T.kind T.tick hn2 hm2 (wpAny_Constant_int (PyProof.Rows.iadd_int (wpAny_storeName_local T.tick hn2 (fun h' hn' sb => ?_) (by rw [show (gEnv qual scope L fT cdv).scope.kind = .function from T.kind]; rfl)))))
      refine ⟨rfl, rfl, rfl, sb, _, hn', ?_, _, if_pos rfl⟩
      show (if ("self" : Str) = ("tick" : Str) then _ else m2 "self") = _
      rw [if_neg (by decide)]
      exact hs2
    · obtain ⟨rfl, h1, h2, h3, h4⟩ := h3
      refine seg_execs_nil (seg_again rfl (ih s'' s3 (t + 1) (by omega) (.of fun x o hx e => (h3.2 x hx).trans e) h1 (Z2.frame hLo h3 h2) h4))
theorem tk_start {A : Around} {p1 p2 p3 p4 p5 p6 p7 p8 p9 q1 q2 q3 q4 q5 r1 r2 r3 r4 r5 : Pos} {x1 j2 j1 : Nat} {n t : Nat} {s : Shared} (T : TkS scope) (T2 : TkT P w K mg base k fN C fdN) (hps : ps ≠ []) (hLo : L ∉ frs outer)
    (hr : Room (k + 1) A) (hfr : A.frames = some outer)
    (hb1 : attributeBase (.Name "self" p3) "front" (gEnv qual scope L fT cdv) (eval (.Name "self" p3) (gEnv qual scope L fT cdv)) = eval (.Name "self" p3) (gEnv qual scope L fT cdv))
    (hb2 : attributeBase (.Name "self" p5) "period" (gEnv qual scope L fT cdv) (eval (.Name "self" p5) (gEnv qual scope L fT cdv)) = eval (.Name "self" p5) (gEnv qual scope L fT cdv))
    (hin : interactive (gEnv qual scope L fT cdv) = false) (Z : TkAt P w mg base outer C p L fs ps s) (M : TkM L p "start" t s.heap) :
    Seg (model P w) A RTk (YTk P w mg base outer C p L fs ps (t + n)) (n + 1) s (.func (tkSts p1 p2 p3 p4 p5 p6 p7 p8 p9 q1 q2 q3 q4 q5 r1 r2 r3 r4 r5 x1 j2 j1) (gEnv qual scope L fT cdv))
      ((model P w).den (.func (tkSts p1 p2 p3 p4 p5 p6 p7 p8 p9 q1 q2 q3 q4 q5 r1 r2 r3 r4 r5 x1 j2 j1) (gEnv qual scope L fT cdv))) [] s := by
  obtain ⟨m, hn, hs, tt, hm⟩ := M
  refine seg_func (seg_execs_cons (seg_wrap ?_))
  refine wpAny_mono (Q := fun f s3 => f = .next ∧ s3.os = s.os ∧ s3.gens = s.gens ∧ Heap.SameBut L s.heap s3.heap ∧ TkM L p "tick" t s3.heap) (E := fun _ _ => False) ?_ (fun f s3 h3 => ?_) fun _ _ z => z.elim
  · refine wpAny_Assign_Name (ld_loc T T.start hn hm (wpAny_storeName_local T.tick hn (fun h' hn' sb => ?_) (by rw [show (gEnv qual scope L fT cdv).scope.kind = .function from T.kind]; rfl)))
    refine ⟨rfl, rfl, rfl, sb, _, hn', ?_, _, if_pos rfl⟩
    show (if ("self" : Str) = ("tick" : Str) then _ else m "self") = _
    rw [if_neg (by decide)]
    exact hs
  · obtain ⟨rfl, h1, h2, h3, h4⟩ := h3
    refine seg_execs_cons (seg_While fun pp => ?_)
    have ov : ∀ (kk : Result → Sem PySem.Fin) (l kp : List Value), A.over (.whileLoop (.Constant (.bool true) j1 r4) (tkBody p1 p2 p3 p4 p5 p6 p7 p8 p9 q1 q2 q3 q4 q5 x1 j2) [] (gEnv qual scope L fT cdv)) [.ret kk none false l (.func (tkSts p1 p2 p3 p4 p5 p6 p7 p8 p9 q1 q2 q3 q4 q5 r1 r2 r3 r4 r5 x1 j2 j1) (gEnv qual scope L fT cdv)) pp kp] = A.deeper (gEnv qual scope L fT cdv) :=
      fun kk l kp => (over_loop rfl rfl).trans over_func
    exact tk_loop T T2 hps hLo (by rw [show id false = false from rfl, ov]; exact hr.deeper _) (by rw [show id false = false from rfl, ov]; exact Around.frames_deeper hfr) rfl rfl hb1 hb2 hin n s s3 t rfl (.of fun x o hx e => (h3.2 x hx).trans e) h1 (Z.frame hLo h3 h2) h4
/-- the generator as it sleeps: its next item is that of tick t; n items may yet be asked for -/
def TkGen (P : Program) (w : World) (mg : Str → Option Value) (base : Heap) (outer : List Env) (C p L : Addr) (fs ps : List Int) (A : Around) (g n t : Nat) (s : Shared) : Prop :=
  ∃ gs oL, s.gens[g]? = some gs ∧ s.heap.get? L = some oL ∧ ∀ n', n = n' + 1 → ∀ s'', s''.heap.get? L = some oL → TkAt P w mg base outer C p L fs ps s'' → gs.Goes (model P w) A RTk (YTk P w mg base outer C p L fs ps (t + n')) n (.send .none) s''
theorem TkGen.keep {A : Around} {g n t : Nat} {s s' : Shared} (h : TkGen P w mg base outer C p L fs ps A g n t s) (hg : s'.gens[g]? = s.gens[g]?) (hL : ∀ o, s.heap.get? L = some o → s'.heap.get? L = some o) : TkGen P w mg base outer C p L fs ps A g n t s' := by
  obtain ⟨gs, oL, h1, h2, h3⟩ := h
  exact ⟨gs, oL, hg.trans h1, hL oL h2, h3⟩
/-- one item more -/
theorem tk_next {A : Around} {g n t a0 : Nat} {s : Shared} {Q : Option Value → Shared → Prop} {E : Value → Shared → Prop} (hh : A.handled = none) (hl : s.heap.NoLimit) (hd : A.depth < recursionLimit) (hg : s.heap.IsGen a0 g) (G : TkGen P w mg base outer C p L fs ps A.in1 g (n + 1) t s) (Z : TkAt P w mg base outer C p L fs ps s)
    (h : ∀ (s1 : Shared) (gs : GenState) (t1 t2 : Tok), KeepL L (frs outer) s.heap s1.heap → s1.os = s.os → AllBare s1.gens → gs.bare = true → (∃ o, s1.heap.get? L = some o ∧ ∀ v, o.data ≠ .cell v) →
      TkGen P w mg base outer C p L fs ps A.in1 g n (t + 1) (({ s1 with heap := s1.heap.push { cls := .type "tuple", data := .seq [.int t t1, .int (numAt fs ps t) t2].toArray } } : Shared).setGen g gs) →
      Q (some (.ref s1.heap.objs.size)) (({ s1 with heap := s1.heap.push { cls := .type "tuple", data := .seq [.int t t1, .int (numAt fs ps t) t2].toArray } } : Shared).setGen g gs)) :
    wpAny (model P w) A (pyNext (.ref a0)) Q E s := by
  obtain ⟨gs, oL, hgs, hoL, go⟩ := G
  have hgl : g < s.gens.size := (Array.getElem?_eq_some_iff.mp hgs).1
  have Z' : TkAt P w mg base outer C p L fs ps (s.setGen g .running) := by
    obtain ⟨H, hbs, hbz, hfu, hff, hok, hba, tm, hL⟩ := Z.ex
    exact ⟨H, hbs, hbz, hfu, hff, hok, allBare_setGen hba rfl, tm, hL⟩
  refine wpAny_gsz (n := g + 1) hgl (next_genG (n := n + 1) (F := fun _ _ _ => False) (Er := fun _ _ => False) (Y := YTk P w mg base outer C p L fs ps (t + n)) hh hl hd hg hgs ?_ (fun v s1 gs' hbare hv => ?_) (fun _ z => False.elim z) fun e s3 he' => False.elim he')
  · have q := go n rfl (s.setGen g .running) hoL Z'
    cases gs with
    | fresh c => exact ⟨q.1, seg_imp (fun n s₀ r s z => False.elim z) (fun n s₀ v s kap kap' hk hy => by
        obtain ⟨a1, a2, a3, a4, b1, b2, b3, b4, b5, b6, b7, b8⟩ := hy
        exact ⟨a1, a2, a3, a4, b1, b2, b3, b4, b5, b6, b7, fun s'' x y z => hk _ _ (b8 s'' x y z)⟩) _ q.2⟩
    | suspended kk v c pp fss ll => exact seg_imp (fun n s₀ r s z => False.elim z) (fun n s₀ v s kap kap' hk hy => by
        obtain ⟨a1, a2, a3, a4, b1, b2, b3, b4, b5, b6, b7, b8⟩ := hy
        exact ⟨a1, a2, a3, a4, b1, b2, b3, b4, b5, b6, b7, fun s'' x y z => hk _ _ (b8 s'' x y z)⟩) _ q
    | running => exact False.elim q
    | finished => exact False.elim q
  · intro hsz
    obtain ⟨s2, t', t1, t2, ht, kp, hos, hba, rfl, rfl, M, hk⟩ := hv
    have ht' : t' = t := by
      have : t' + (n + 1 - 1) = t + n := ht
      omega
    subst ht'
    have hz1 : g < s2.gens.size := by
      have q : (({ s2 with heap := s2.heap.push { cls := .type "tuple", data := .seq [.int t' t1, .int (numAt fs ps t') t2].toArray } } : Shared).setGen g gs').gens.size = s2.gens.size := setGen_size _ _ _
      have hsz' : g + 1 ≤ _ := hsz
      rw [q] at hsz'
      exact hsz'
    obtain ⟨m, hn, hs, tt, hm⟩ := M
    obtain ⟨oL2, es, ep, ho2, r2⟩ := id hn
    refine h s2 gs' t1 t2 kp hos hba hbare ⟨oL2, ho2, fun v z => by rw [r2.1] at z; cases z⟩ ⟨gs', oL2, setGen_at (s := { s2 with heap := _ }) hz1, Heap.get?_push_of_some _ ho2, fun n' en s'' hL2 Z2 => ?_⟩
    have en' : n = n' + 1 := en
    subst en'
    have q := hk s'' (by omega) Z2 ⟨m, ⟨oL2, es, ep, hL2, r2⟩, hs, tt, hm⟩
    rw [show t' + 1 + n' = t' + (n' + 1) by omega]
    cases gs' with
    | fresh c => exact ⟨q.1, seg_imp (fun n s₀ r s z => by rcases z with ⟨_, z⟩ | ⟨_, _, z⟩ <;> exact z) (fun n s₀ v s kap kap' hk hy => by
        obtain ⟨a1, a2, a3, a4, b1, b2, b3, b4, b5, b6, b7, b8⟩ := hy
        exact ⟨a1, a2, a3, a4, b1, b2, b3, b4, b5, b6, b7, fun s'' x y z => hk _ _ (b8 s'' x y z)⟩) _ q.2⟩
    | suspended kk v c pp fss ll => exact seg_imp (fun n s₀ r s z => by rcases z with ⟨_, z⟩ | ⟨_, _, z⟩ <;> exact z) (fun n s₀ v s kap kap' hk hy => by
        obtain ⟨a1, a2, a3, a4, b1, b2, b3, b4, b5, b6, b7, b8⟩ := hy
        exact ⟨a1, a2, a3, a4, b1, b2, b3, b4, b5, b6, b7, fun s'' x y z => hk _ _ (b8 s'' x y z)⟩) _ q
    | running => exact False.elim q
    | finished => exact False.elim q
end
end R49
set_option maxHeartbeats 4000000
/-! a timetable's ticks: the call that makes the generator; the loops over it -/
namespace R49
open PySem PySem.Spec PyProof.Rows L2 GenW
section
variable {P : Program} {w : World} {K : PySem.W.Frag} {mg : Str → Option Value} {base : Heap} {k : Nat} {fN fT C p : Addr} {fdN : FuncData} {outer : List Env} {qual : Str} {scope : Scope} {fs ps : List Int}
/-- ticks as the top has made it -/
structure TkF (K : PySem.W.Frag) (fT : Addr) (fd : FuncData) (scope : Scope) : Prop where
  S : GScope ["self", "start", "tick"] ["self", "start"] scope
  T : TkS scope
  lk : ∃ (qual name : Str) (params : Arguments) (p1 p2 p3 p4 p5 p6 p7 p8 p9 q1 q2 q3 q4 q5 r1 r2 r3 r4 r5 : Pos) (x1 j2 j1 : Nat) (oc : Value) (od : Option Addr) (dV kV doc pm : Value) (an : Option Addr) (cdv ct : Value) (osl : Array (Option Value)),
    fd = PySem.W.fnOf name qual params (tkSts p1 p2 p3 p4 p5 p6 p7 p8 p9 q1 q2 q3 q4 q5 r1 r2 r3 r4 r5 x1 j2 j1) scope dV kV doc pm an cdv ct ∧ K.lookup fT = some ⟨oc, od, .func fd, osl⟩ ∧ PySem.W.codeIn K cdv qual = true
/-- what the call has made -/
def TkMade (P : Program) (w : World) (mg : Str → Option Value) (base : Heap) (k : Nat) (outer : List Env) (C p : Addr) (fs ps : List Int) (t : Nat) (s : Shared) (u : Value) (s' : Shared) : Prop :=
  ∃ (a0 g L : Addr), u = .ref a0 ∧ s.heap.objs.size ≤ L ∧ s.heap.objs.size ≤ a0 ∧ a0 ≠ L ∧ s'.heap.IsGen a0 g ∧ s'.os = s.os ∧ AllBare s'.gens ∧ s'.heap.NoLimit ∧ (∀ b o, s.heap.get? b = some o → s'.heap.get? b = some o) ∧
    (∃ o, s'.heap.get? L = some o ∧ ∀ v, o.data ≠ .cell v) ∧ (∃ o, s'.heap.get? a0 = some o ∧ ∀ v, o.data ≠ .cell v) ∧
    ∀ (A : Around) (n : Nat), Room (k + 1) A → A.frames = some outer → TkGen P w mg base outer C p L fs ps A g n t s'
theorem tk_call {A : Around} {s : Shared} {H : Hp} {args : Args} {fd : FuncData} {t : Nat} {tt : Tok} (F : TkF K fT fd scope) (T2 : TkT P w K mg base k fN C fdN) (hr : Room (k + 1) A) (e0 : Env0 P w K mg base A outer s H) (hps : ps ≠ []) (tm : TimesAt C H p fs ps)
    (hb : BindsTo s fd args [("self", .ref p), ("start", .int t tt)]) :
    codeAny (model P w) A (.call (.ref fT) args) (fun r s' => match r with | .ok (.ret u) => TkMade P w mg base k outer C p fs ps t s u s' | _ => False) s := by
  obtain ⟨qual, name, params, p1, p2, p3, p4, p5, p6, p7, p8, p9, q1, q2, q3, q4, q5, r1, r2, r3, r4, r5, x1, j2, j1, oc, od, dV, kV, doc, pm, an, cdv, ct, osl, rfl, lk, hcd⟩ := F.lk
  have KX : K.In s.heap := e0.mod.kin.keeps fun b o e => (e0.bs b o e).1
  have lim : s.heap.NoLimit := e0.mod.nolimit.keeps fun b o e => (e0.bs b o e).1
  have hkind : ∀ y ∈ ([(("self" : Str), .ref p), (("start" : Str), .int t tt)] : List (Str × Value)), scope.names.lookup y.1 = some .local ∨ (scope.names.lookup y.1 = some .cell ∧ ((cellsFrom (s.heap.objs.size + 1) scope.names []).lookup y.1).isSome = true) := fun y hy => by
    rcases List.mem_cons.mp hy with rfl | hy
    · exact .inl F.T.self
    · rcases List.mem_cons.mp hy with rfl | hy
      · exact .inl F.T.start
      · cases hy
  refine codeAny_call_generator hr.depth (KX _ _ lk) rfl F.S.co F.S.gen rfl (PySem.W.codeRec_of KX hcd) (hb _ _ _ _ ?_)
  refine wpAny_newFunctionEnv_cells F.S.kind hkind fun env he s1 x => ?_
  subst he
  have lim1 : s1.heap.NoLimit := lim.keeps x.toInCall.keep
  refine ⟨lim1, ?_⟩
  obtain ⟨h1, tk, es1, hk1⟩ := x.done
  have os1 : s1.os = s.os := by rw [es1]
  have gen1 : s1.gens = s.gens := by rw [es1]
  have lt1 : s.heap.objs.size < s1.heap.objs.size := x.toInCall.ns.lt
  have kp1 : ∀ b o, s.heap.get? b = some o → s1.heap.get? b = some o := x.toInCall.keep
  have hns := x.toInCall.ns
  generalize hL : s.heap.objs.size = L at *
  have main : ∀ (go : Obj) (nm qn : Value) (tk2 : Nat), go.cls = .type "generator" → go.data = .fields #[.int s1.gens.size 0, nm, qn] → go.slots = #[] → (∀ h : Heap, (h.push go).get? h.objs.size = some go) →
      TkMade P w mg base k outer C p fs ps t s (.ref s1.heap.objs.size) { s1 with gens := s1.gens.push (.fresh (.func (tkSts p1 p2 p3 p4 p5 p6 p7 p8 p9 q1 q2 q3 q4 q5 r1 r2 r3 r4 r5 x1 j2 j1) (gEnv qual scope L fT cdv))), toks := tk2, heap := s1.heap.push go } := by
    intro go nm qn tk2 hgc hgd0 hgs hgp
    have hpushed : (s1.heap.push go).get? s1.heap.objs.size = some go := hgp _
    obtain ⟨oL, es, ep, hoL, hdL, rL⟩ := id hns
    refine ⟨s1.heap.objs.size, s1.gens.size, L, rfl, Nat.le_of_eq hL, hL ▸ Nat.le_of_lt lt1, Nat.ne_of_gt lt1, ⟨go, nm, qn, hpushed, hgc, hgd0, hgs⟩, os1, ?_, lim1.keeps fun b o e => Heap.get?_push_of_some _ e, fun b o e => Heap.get?_push_of_some _ (kp1 b o e),
      ⟨oL, Heap.get?_push_of_some _ hoL, fun v q => by rw [hdL] at q; cases q⟩, ⟨go, hpushed, fun v q => by rw [hgd0] at q; cases q⟩, fun Aw n hrw hfr => ?_⟩
    · exact AllBare.push (by rw [gen1]; exact e0.bare) rfl
    · refine ⟨_, oL, Array.getElem?_push_size .., Heap.get?_push_of_some _ hoL, fun n' en s'' hL2 Z => ⟨rfl, ?_⟩⟩
      subst en
      have hLo : L ∉ frs outer := fun hb => by
        obtain ⟨_, o, ho, _⟩ := e0.funs.mem hb
        have := Heap.lt_size ho
        rw [hL] at this
        exact Nat.lt_irrefl _ this
      refine tk_start F.T T2 hps hLo hrw hfr rfl rfl (by simp [interactive, show (gEnv qual scope L fT cdv).scope.kind = .function from F.T.kind]) Z ⟨_, ⟨oL, es, ep, hL2, hdL, rL⟩, ?_, tt, ?_⟩
      · have kl : (gEnv qual scope L fT cdv).kindOf ("self" : Str) = some .local := F.T.self
        have nd : (["self", "start"] : List Str).Nodup := by decide
        exact bindL_get (P := ["self", "start"]) (vs := [.ref p, .int t tt]) (i := 0) nd rfl rfl kl
      · have kl : (gEnv qual scope L fT cdv).kindOf ("start" : Str) = some .local := F.T.start
        have nd : (["self", "start"] : List Str).Nodup := by decide
        exact bindL_get (P := ["self", "start"]) (vs := [.ref p, .int t tt]) (i := 1) nd rfl rfl kl
  exact main _ _ _ _ rfl rfl rfl fun h => Heap.get?_push_size _ rfl
end
section
variable {X : Cx} {k n : Nat} {fN fT C p : Addr} {fdN fdT : FuncData} {scope : Scope} {fs ps : List Int}
/-- where the generator's frame L and its object a0 stand, for the def that walks it -/
structure TkL (X : Cx) (pins : List (Addr × Obj)) (L a0 : Addr) : Prop where
  loc : L ≠ X.env.locals
  new : X.s_0.heap.objs.size ≤ L
  cell : ∀ x c, X.env.cells.lookup x = some c → c ≠ L
  pin : ∀ q ∈ X.pn ++ pins, q.1 ≠ L
  ne : a0 ≠ L
  fr : a0 ∉ frs X.stack
  frL : L ∉ frs X.stack
/-- an item, in the def's context -/
theorem tk_item {pins : List (Addr × Obj)} {σ : L2.St} {H : Hp} {s : Shared} {g n t L a0 : Nat} {Q : Option Value → Shared → Prop} {E : Value → Shared → Prop} (hr : Room k X.A) (I : Inv X pins σ H s) (Z : TkL X pins L a0) (hL : H L = none) (ha : H a0 = none)
    (G : TkGen X.prog X.w X.mg X.base X.stack C p L fs ps X.A.in1 g (n + 1) t s) (hg : s.heap.IsGen a0 g) (tm : TimesAt C H p fs ps)
    (h : ∀ (q : Addr) (s' : Shared), H q = none → q ≠ L → q ≠ a0 → Inv X pins σ (upd H q (.tup [.int t, .int (numAt fs ps t)])) s' → TkGen X.prog X.w X.mg X.base X.stack C p L fs ps X.A.in1 g n (t + 1) s' → s'.heap.IsGen a0 g → (∃ o, s'.heap.get? L = some o ∧ ∀ v, o.data ≠ .cell v) → Q (some (.ref q)) s') :
    wpAny (model X.prog X.w) X.A (pyNext (.ref a0)) Q E s := by
  have hbz : X.base.objs.size ≤ L := Nat.le_trans I.ok.bsz Z.new
  refine tk_next hr.hd I.nolimit hr.depth hg G ⟨H, I.bs, hbz, I.stack, I.stkFree, I.hok, I.bare, tm, hL⟩ fun s1 gs t1 t2 kp os1 ba1 hbr hoL G1 => ?_
  have un : Un (frs X.stack) [L] H H s.heap s1.heap := by
    have hm : ∀ b, b ∉ [L] → b ≠ L := fun b hb z => hb (by rw [z]; exact List.mem_singleton.mpr rfl)
    refine ⟨fun b o e _ hf hx => (kp b o (hm b hx) e).1 hf, fun b o e _ hf hx => (kp b o (hm b hx) e).2 hf, fun _ _ _ n _ => n, fun b o e hx => ?_, fun _ _ q => q, fun _ _ _ q => q, fun _ ps q => ⟨#[], by rw [q]; simp⟩⟩
    by_cases hf : b ∈ frs X.stack
    · obtain ⟨sl, e1⟩ := (kp b o (hm b hx) e).2 hf
      exact ⟨_, e1⟩
    · exact ⟨o, (kp b o (hm b hx) e).1 hf⟩
  have hok1 : HOk X.prog X.w H s1.heap := fun b u e => by
    refine (I.hok b u e).stay (fun c v hc q => ?_) (fun _ q => q) fun _ _ q => q
    have hcH : H c ≠ none := by
      rcases hc with z | z
      · rw [z, e]; exact fun z => by cases z
      · rw [z]; exact fun z => by cases z
    have hcL : c ≠ L := fun z => hcH (by rw [z]; exact hL)
    exact (kp c v hcL q).1 fun hf => hcH (I.stkFree c hf)
  have I1 : Inv X pins σ H s1 := I.call' (ch := [L]) os1 un hok1 ba1 fun b hb => by
    rw [List.mem_singleton.mp hb]
    exact ⟨.inr Z.new, Z.loc, Z.cell, Z.pin⟩
  have hq : H s1.heap.objs.size = none := I1.hok.fresh (Nat.le_refl _)
  have I2 : Inv X pins σ (upd H s1.heap.objs.size (.tup [.int t, .int (numAt fs ps t)])) { s1 with heap := s1.heap.push { cls := .type "tuple", data := .seq [.int t t1, .int (numAt fs ps t) t2].toArray } } :=
    I1.laid (t' := s1.toks) (fun b u e => Heap.get?_push_of_some _ e) (Nat.le_refl _) ⟨by show 2 ≤ sizeLine; rw [sizeLine_eq]; decide, _, .cons ⟨_, rfl⟩ (.cons ⟨_, rfl⟩ .nil), ⟨_, Heap.get?_push_size _ rfl, rfl, _, rfl⟩⟩
  have I3 : Inv X pins σ (upd H s1.heap.objs.size (.tup [.int t, .int (numAt fs ps t)])) (({ s1 with heap := s1.heap.push { cls := .type "tuple", data := .seq [.int t t1, .int (numAt fs ps t) t2].toArray } } : Shared).setGen g gs) :=
    I2.call' (ch := []) rfl Un.refl I2.hok (allBare_setGen (s := { s1 with heap := _ }) ba1 hbr) fun b z => by simp at z
  obtain ⟨oL, hoL, hcL⟩ := hoL
  have g0 : s1.heap.IsGen a0 g := by
    obtain ⟨o, nm, qn, e, r⟩ := hg
    exact ⟨o, nm, qn, (kp a0 o Z.ne e).1 Z.fr, r⟩
  have q1 : s1.heap.objs.size ≠ L := Nat.ne_of_gt (Heap.lt_size hoL)
  have q2 : s1.heap.objs.size ≠ a0 := by
    obtain ⟨o, _, _, e, _⟩ := g0
    exact Nat.ne_of_gt (Heap.lt_size e)
  exact h _ _ hq q1 q2 I3 G1 (g0.push _) ⟨oL, Heap.get?_push_of_some _ hoL, hcL⟩
/-- the generator is made, in the def's context -/
theorem tk_mk {pins : List (Addr × Obj)} {σ : L2.St} {H : Hp} {s : Shared} {us : List Value} {kw : List (Str × Value)} {t : Nat} {tt : Tok} {E : Value → Shared → Prop} (F : TkF X.K fT fdT scope) (T2 : TkT X.prog X.w X.K X.mg X.base k fN C fdN) (hr : Room (k + 2) X.A) (I : Inv X pins σ H s) (hps : ps ≠ []) (tm : TimesAt C H p fs ps)
    (hb : BindsTo s fdT ⟨us, kw⟩ [("self", .ref p), ("start", .int t tt)]) :
    wpAny (model X.prog X.w) X.A (call (.ref fT) us kw) (fun u s' => ∃ a0 g L, u = .ref a0 ∧ Inv X pins σ H s' ∧ TkL X pins L a0 ∧ H L = none ∧ H a0 = none ∧ s'.heap.IsGen a0 g ∧
      (∃ o, s'.heap.get? L = some o ∧ ∀ v, o.data ≠ .cell v) ∧ (∃ o, s'.heap.get? a0 = some o ∧ ∀ v, o.data ≠ .cell v) ∧ ∀ n, TkGen X.prog X.w X.mg X.base X.stack C p L fs ps X.A.in1 g n t s') E s := by
  refine wpAny_call (codeAny_mono (tk_call F T2 (hr.mono (Nat.le_succ _)) I.env0 hps tm hb) fun r s2 hq => ?_)
  cases r with
  | error e => exact False.elim hq
  | ok fl =>
    cases fl with
    | next => exact False.elim hq
    | brk => exact False.elim hq
    | cont => exact False.elim hq
    | ret u =>
      obtain ⟨a0, g, L, rfl, hL, ha, hne, hgn, hos, hba, hnl, kp, oL, oa, go⟩ := hq
      have nstk : ∀ b, s.heap.objs.size ≤ b → b ∉ frs X.stack := fun b hb hm => by
        rcases List.mem_cons.mp (I.stkSub b hm) with z | z
        · rw [z] at hb
          exact Nat.lt_irrefl _ (Nat.lt_of_lt_of_le I.lt hb)
        · exact I.nofs hb z
      have f := Inv.fpOk (H' := H) I hL (I.hok.fresh hL)
      obtain ⟨f0, f1, f2, f3, f4, f5⟩ := f
      refine ⟨a0, g, L, rfl, I.call' (ch := []) hos (Un.kept kp) (I.hok.kept kp) hba fun b z => by simp at z, ⟨f1, Nat.le_trans I.sz hL, f4, f5, hne, nstk a0 ha, nstk L hL⟩, I.hok.fresh hL, I.hok.fresh ha, hgn, oL, oa, fun n => go X.A.in1 n ?_ I.ok.frames⟩
      exact Room.in1 (k := k + 1) hr
theorem go_gen {A : Around} {E : Value → Shared → Prop} {s : Shared} {M : Model} {tg : Expr} {a0 g : Nat} {u : Value} {Q : Unit → Shared → Prop} (hg : s.heap.IsGen a0 g) (h : Q () s) : wpAny M A (letOwnedTupleGo tg (.ref a0) u) Q E s := by
  obtain ⟨o, nm, qn, e, hc, hd, _⟩ := hg
  exact go_of (n := "generator") e hc hd (by decide) h
/-- for .. in o.ticks(): one item, then the loop is left -/
theorem ps_forTk0 {tg o : Expr} {body : List Stmt} {apos cpos pos : Pos} {ta : TE} {g : TG} {tb : TS} {pl : Sem Bool} {ds : List Value} (hp : PassesOwn (model X.prog X.w) X.A X.env X.xe) (F : TkF X.K fT fdT scope) (T2 : TkT X.prog X.w X.K X.mg X.base k fN C fdN) (hr : Room (k + 2) X.A)
    (he : PE X o ta) (hm : Meth X.K C "ticks" fT) (hb : Binds X.K fdT ["self", "start"] ds) (hd : Vals [.int 0] ds) (hg : PG X tg g) (hbd : PSs X body tb)
    (hs : ∀ y, foldedSetIterable (.Call (.Attribute o "ticks" apos) [] [] cpos) X.env y = pure y := by intro _; rfl)
    (ht : eval (.Call (.Attribute o "ticks" apos) [] [] cpos) X.env = (do
      let ov ← eval o X.env
      standAt apos.atName
      let (f, first) ← holding [ov] (getMethod ov "ticks" pl)
      callWith cpos f first (backTo cpos (starEach [] X.env)) (backToKw cpos (keywordEach [] X.env))) := by rfl) :
    PS X (.For tg (.Call (.Attribute o "ticks" apos) [] [] cpos) body [] pos) (fun D σ H => ta σ H fun x H1 => ∃ p fs ps, x = .ref p ∧ TimesAt C H1 p fs ps ∧ ps ≠ [] ∧
      ∀ q, H1 q = none → g (.ref q) σ (upd H1 q (.tup [.int 0, .int (numAt fs ps 0)])) fun σ2 H2 => tb { D with nx := fun _ _ => False, ct := fun _ _ => False, bk := D.nx } σ2 H2) := by
  refine ⟨fun pins s σ H D I h => ?_⟩
  refine wpAny_For ?_ hs
  refine PySem.W.methodCall_KW (pl := pl) (thn (he.run pins s σ H _ I h) fun u s1 hu => ?_) ht
  obtain ⟨x, H1, I1, rx, p, fs, ps, rfl, tm, hps, qh⟩ := hu
  obtain rfl : u = Value.ref p := rx
  obtain ⟨dx, a, b, hp1, _⟩ := id tm
  refine getmeth_ok I1 hp1 T2.cl hm (tmF_no a b (by decide) (by decide)) ?_
  obtain ⟨d0, rfl, t0, rfl⟩ := hd.one
  refine PySem.W.callWith_K0 (first := [.ref p]) I1.kIn hm.kp ?_
  refine wpAny_mono (tk_mk (t := 0) (tt := t0) F T2 hr I1 hps tm (hb s1 [.ref p] I1.kIn rfl)) (fun u s2 hu => ?_) fun _ _ z => z
  obtain ⟨a0, gg, L, rfl, I2, Z, hL, ha, hgn, _, _, G⟩ := hu
  refine wpAny_pyIter_gen hgn ?_
  refine codeAny_forLoop_any (fun _ s' => s' = s2) (fun n s' es' => ?_) 0 rfl
  subst es'
  refine wpAny_passesOwn hp ?_
  refine tk_item (k := k) (hr.mono (by omega)) I2 Z hL ha (G 1) hgn tm fun q s3 hq q1 q2 I3 G3 hg3 _ => ?_
  refine wpAny_passesOwn hp (go_gen hg3 ?_)
  refine wpAny_passesOwn hp (thn (hg.run _ s3 σ _ (.ref q) (.ref q) _ I3 rfl (qh q hq)) fun _ s4 h4 => ?_)
  obtain ⟨σ4, H4, I4, q4⟩ := h4
  refine wpAny_passesOwn hp (thn (hbd.run _ s4 σ4 H4 _ I4 q4) fun f s5 h5 => ?_)
  cases f with
  | next => obtain ⟨_, _, _, z⟩ := h5; exact z.elim
  | cont => obtain ⟨_, _, _, z⟩ := h5; exact z.elim
  | brk => exact h5
  | ret v => exact h5
/-! the loop of _law_first_ticks, by states (what sleeps must be known to sleep on) -/
theorem loc_val {pins : List (Addr × Obj)} {σ : L2.St} {H : Hp} {s : Shared} {i : Nat} {x : Str} {v : V} {pos : Pos} {E : Value → Shared → Prop} {Q : Value → Shared → Prop} (I : Inv X pins σ H s) (hN : X.N[i]? = some x) (hk : X.env.kindOf x = some .local) (hv : σ[i]? = some (some v)) (h : ∀ u, RelV v u → Q u s)
    (hd : (x == ("__debug__" : Str)) = false := by decide) : wpAny (model X.prog X.w) X.A (eval (.Name x pos) X.env) Q E s := by
  obtain ⟨m, hn, hl⟩ := I.loc
  obtain ⟨u, r, l⟩ := hl i x v hN hv (.inl hk)
  rcases l with ⟨_, hm⟩ | ⟨hk2, _⟩
  · exact wpAny_Name (wpAny_loadName_local I.ok.kind hk hn hm (h u r)) hd
  · rcases hk2 with z | z <;> (rw [hk] at z; cases z)
/-- if len(found) == many: break -/
theorem ft_test {pins : List (Addr × Obj)} {σ : L2.St} {H : Hp} {s : Shared} {d : Addr} {xs : List V} {c : Int} {i j : Nat} {xf xm : Str} {p1 p2 p3 p4 p5 p6 p7 : Pos} (I : Inv X pins σ H s) (gl : Gl X "len") (ml : X.mg "len" = none) (hN1 : X.N[i]? = some xf) (hk1 : X.env.kindOf xf = some .local) (hv1 : σ[i]? = some (some (.ref d))) (hd : H d = some (.lst xs))
    (hN2 : X.N[j]? = some xm) (hk2 : X.env.kindOf xm = some .local) (hv2 : σ[j]? = some (some (.int c))) (hd1 : (xf == ("__debug__" : Str)) = false) (hd2 : (xm == ("__debug__" : Str)) = false)
    (hst : starEach [.Name xf p2] X.env = (false, eval (.Name xf p2) X.env) :: starEach [] X.env) (hpl : (backTo p3 (starEach [] X.env)).any (·.1) = false) :
    wpAny (model X.prog X.w) X.A (exec (.If (.Compare (.Call (.Name "len" p1) [.Name xf p2] [] p3) [.Eq] [.Name xm p4] p5) [.Break p6] [] p7) X.env) (fun f s' => Inv X pins σ H s' ∧ s'.gens = s.gens ∧ f = (if (xs.length : Int) = c then Flow.brk else Flow.next)) X.xe s := by
  refine wpAny_If (wpAny_isTrue_Compare1 ?_ (nobehind _ (by decide) (by decide)))
  refine wpAny_Call_Name_kw (ld_blt I gl ml boot_len ?_)
  refine PyProof.Rows.callWith_builtin1 ?_ hst hpl
  rw [hst]
  refine Calls.spliced_cons (loc_val I hN1 hk1 hv1 (fun u r => ?_) hd1)
  obtain rfl : u = Value.ref d := r
  refine Calls.spliced_nil ?_
  obtain ⟨its, r', pl, hz⟩ := I.list (.of hd)
  have hlen := r'.length
  have hn := line63
  refine Calls.call_len_list pl.isList (by simp only [List.size_toArray]; omega) ?_
  refine loc_val (I.tok _) hN2 hk2 hv2 (fun u r => ?_) hd2
  obtain ⟨t, rfl⟩ := r
  refine PyProof.Rows.eq_int (wpAny_truthy_bool ?_)
  have e1 : ((its.toArray.size : Nat) : Int) = (xs.length : Int) := by simp only [List.size_toArray]; omega
  by_cases hc : (xs.length : Int) = c
  · rw [if_pos hc, e1, hc]
    simp only [beq_self_eq_true, if_true]
    exact wpAny_execs_cons (wpAny_Break ⟨I.tok _, rfl, rfl⟩)
  · rw [if_neg hc, e1]
    have e2 : ((xs.length : Int) == c) = false := by simpa using hc
    rw [e2]
    exact wpAny_execs_nil ⟨I.tok _, rfl, rfl⟩
/-- found.append(one) -/
theorem ft_append {pins : List (Addr × Obj)} {σ : L2.St} {H : Hp} {s : Shared} {d : Addr} {xs : List V} {y : V} {i j : Nat} {xf xo : Str} {p1 p2 p3 p4 p5 : Pos} (I : Inv X pins σ H s) (hN1 : X.N[i]? = some xf) (hk1 : X.env.kindOf xf = some .local) (hv1 : σ[i]? = some (some (.ref d))) (hd : H d = some (.lst xs)) (hz : xs.length < 1000)
    (hN2 : X.N[j]? = some xo) (hk2 : X.env.kindOf xo = some .local) (hv2 : σ[j]? = some (some y)) (hd1 : (xf == ("__debug__" : Str)) = false) (hd2 : (xo == ("__debug__" : Str)) = false)
    (hst : starEach [.Name xo p3] X.env = (false, eval (.Name xo p3) X.env) :: starEach [] X.env) (hpl : (backTo p4 (starEach [] X.env)).any (·.1) = false)
    (hbase : attributeBase (.Name xf p1) "append" X.env (eval (.Name xf p1) X.env) = eval (.Name xf p1) X.env)
    (hfew : ((backTo p4 (starEach [.Name xo p3] X.env)).all (fun x => !x.1) && (backToKw p4 (keywordEach [] X.env)).all (fun x => x.1.isSome)
      && decide (([.Name xo p3] : List Expr).length + ([] : List Keyword).length + (if ([] : List Keyword).isEmpty then 0 else 1) < 30)) = true) (hline : (p2.endLine == p4.line) = true)
    (hsw : swapsWith (.Call (.Attribute (.Name xf p1) "append" p2) [.Name xo p3] [] p4) none p5.line X.env = pure false) :
    wpAny (model X.prog X.w) X.A (exec (.Expr (.Call (.Attribute (.Name xf p1) "append" p2) [.Name xo p3] [] p4) p5) X.env) (fun f s' => Inv X pins σ (upd H d (.lst (xs ++ [y]))) s' ∧ s'.gens = s.gens ∧ f = .next) X.xe s := by
  refine wpAny_Expr_any ?_ I.quiet hsw
  refine wpAny_Call_method_late hbase hfew hline rfl (loc_val I hN1 hk1 hv1 (fun v r => ?_) hd1)
  obtain ⟨h1, h2⟩ := tyV_is (T := "list") I r (.inl ⟨rfl, _, SqL.of hd⟩)
  refine ⟨"list", _, PySem.F.plainAttrs_list, PySem.F.slot_list_append, PySem.F.type_list_append, h1, h2, ?_⟩
  rw [hst]
  refine Calls.callWith_builtin (by show (false || (backTo p4 (starEach [] X.env)).any (·.1)) = false; rw [hpl] <;> rfl) (Calls.evalArgs_plain ?_)
  refine Calls.spliced_cons (loc_val I hN2 hk2 hv2 (fun u ru => ?_) hd2)
  refine Calls.spliced_nil ?_
  obtain rfl : v = Value.ref d := r
  obtain ⟨z, its, n, r, hl, e⟩ := I.lstM hd
  have hsz : sizeLine = 16777216 := sizeLine_eq
  refine call_meets PySem.F.slot_list_append ⟨_, e, rfl⟩ PySem.F.entry_list_append (PySem.F.args_list_append_2 _ _) (PySem.list_append d its.toArray n u (by rw [List.size_toArray]; omega)) ⟨e, ?_⟩
  refine ⟨I.lset (its' := its ++ [u]) hd e (by simp) (r.append (.cons ru .nil)) ?_, rfl, rfl⟩
  rw [List.length_append, List.length_singleton]
  omega
/-- a local name is stored; no generator is touched -/
theorem store_g {M : Model} {A : Around} {E : Value → Shared → Prop} {pins : List (Addr × Obj)} {σ : L2.St} {H : Hp} {s : Shared} {i : Nat} {x : Str} {v : V} {u : Value} {Q : Unit → Shared → Prop} (I : Inv X pins σ H s) (hN : X.N.Nodup) (hi : X.N[i]? = some x) (hk : X.env.scope.names.lookup x = some .local) (r : RelV v u)
    (h : ∀ s', Inv X pins (σ.set i (some v)) H s' → s'.gens = s.gens → Q () s') : wpAny M A (storeName X.env x u) Q E s := by
  obtain ⟨m, hn, hl⟩ := id I.loc
  have hcls : (X.env.scope.kind == .class || (X.env.scope.kind == .module && X.env.locals != X.env.globals)) = false := by rw [I.ok.kind]; rfl
  have hiσ : i < σ.length := by rw [I.len]; exact (List.getElem?_eq_some_iff.mp hi).1
  have old : ∀ b o, X.s_0.heap.get? b = some o → b ≠ X.env.locals := fun b o e => Nat.ne_of_lt (Nat.lt_of_lt_of_le (Heap.lt_size e) I.ok.above)
  refine wpAny_storeName_local hk hn (fun h' hn' sb => ?_) hcls
  have same : ∀ b, b ≠ X.env.locals → h'.get? b = s.heap.get? b := sb.2
  obtain ⟨oL, _, _, hoL, _⟩ := id hn
  refine h _ ?_ rfl
  refine ⟨I.ok, I.os, I.bare, ⟨fun b o e n hb hx => (same b (old b o e)).trans (I.base.keep b o e n hb hx), fun b o e n hb hx => ?_, I.base.free, fun b o e hx => ?_, I.base.tups, I.base.frzs, I.base.tbls⟩, ⟨_, hn', fun j y v' e1 e2 e3 => ?_⟩, fun y c e => ?_, I.free, I.freeC, fun p hp => ?_, fun b ob e => ?_, by simpa using I.len⟩
  · obtain ⟨sl, e1⟩ := I.base.slot b o e n hb hx
    exact ⟨sl, (same b (old b o e)).trans e1⟩
  · obtain ⟨o', e1⟩ := I.base.there b o e hx
    exact ⟨o', (same b (old b o e)).trans e1⟩
  · by_cases hj : j = i
    · subst hj
      rw [hi] at e1; cases e1
      rw [List.getElem?_set_self hiσ] at e2
      cases e2
      exact ⟨u, r, .inl ⟨hk, by simp⟩⟩
    · rw [List.getElem?_set_ne (Ne.symm hj)] at e2
      obtain ⟨u', r', q⟩ := hl j y v' e1 e2 e3
      refine ⟨u', r', ?_⟩
      rcases q with ⟨kk, e⟩ | ⟨kk, c, e, z⟩
      · have ny : y ≠ x := fun e => hj (nodup_ix hN e1 (e ▸ hi))
        exact .inl ⟨kk, by simp [ny, e]⟩
      · exact .inr ⟨kk, c, e, z.sameBut sb (I.cne y c e)⟩
  · obtain ⟨w', z⟩ := I.cell y c e
    exact ⟨w', z.sameBut sb (I.cne y c e)⟩
  · obtain ⟨e, n, ne, nf, d⟩ := I.pin p hp
    exact ⟨(same p.1 ne).trans e, n, ne, nf, d⟩
  · refine (I.hok b ob e).stay (fun c w' hc q => (same c ?_).trans q) (fun _ q => q) fun _ _ q => q
    rintro rfl
    rcases hc with rfl | hc
    · rw [I.free] at e; cases e
    · rw [I.free] at hc; cases hc
/-- the whole loop -/
theorem ps_firstTicks {xo xt xs xf xm : Str} {po pt psx p1 p2 p3 p4 p5 p6 p7 a1 a2 a3 a4 a5 apos kpos cpos pos : Pos} {pl : Sem Bool} (hp : PassesOwn (model X.prog X.w) X.A X.env X.xe) (F : TkF X.K fT fdT scope) (T2 : TkT X.prog X.w X.K X.mg X.base k fN C fdN) (hr : Room (k + 2) X.A) (hm : Meth X.K C "ticks" fT)
    (hb : ∀ (s : Shared) (p : Addr) (t : Int) (tt : Tok), BindsTo s fdT ⟨[.ref p], [("start", .int t tt)]⟩ [("self", .ref p), ("start", .int t tt)])
    (gl : Gl X "len") (ml : X.mg "len" = none) (hND : X.N.Nodup) (n0 : X.N[0]? = some xt) (n1 : X.N[1]? = some xs) (n2 : X.N[2]? = some xm) (n3 : X.N[3]? = some xf) (n4 : X.N[4]? = some xo)
    (k0 : X.env.kindOf xt = some .local) (k1 : X.env.kindOf xs = some .local) (k2 : X.env.kindOf xm = some .local) (k3 : X.env.kindOf xf = some .local) (k4 : X.env.kindOf xo = some .local)
    (d0 : (xt == ("__debug__" : Str)) = false) (d1 : (xs == ("__debug__" : Str)) = false) (d2 : (xm == ("__debug__" : Str)) = false) (d3 : (xf == ("__debug__" : Str)) = false) (d4 : (xo == ("__debug__" : Str)) = false)
    (hs : ∀ y, foldedSetIterable (.Call (.Attribute (.Name xt pt) "ticks" apos) [] [⟨some "start", .Name xs psx, kpos⟩] cpos) X.env y = pure y)
    (ht : eval (.Call (.Attribute (.Name xt pt) "ticks" apos) [] [⟨some "start", .Name xs psx, kpos⟩] cpos) X.env = (do
      let ov ← eval (.Name xt pt) X.env
      standAt apos.atName
      let (f, first) ← holding [ov] (getMethod ov "ticks" pl)
      callWith cpos f first (backTo cpos (starEach [] X.env)) (backToKw cpos (keywordEach [⟨some "start", .Name xs psx, kpos⟩] X.env))))
    (hall : (backToKw cpos (keywordEach [⟨some "start", .Name xs psx, kpos⟩] X.env)).all (·.1.isSome) = true) (hkv : (backToKw cpos (keywordEach [⟨some "start", .Name xs psx, kpos⟩] X.env)).filterMap (·.1) = [("start" : Str)])
    (hpl : ((backTo cpos (starEach [] X.env)).any (·.1) || (backToKw cpos (keywordEach [⟨some "start", .Name xs psx, kpos⟩] X.env)).any (·.1.isNone)) = false)
    (hst1 : starEach [.Name xf p2] X.env = (false, eval (.Name xf p2) X.env) :: starEach [] X.env) (hpl1 : (backTo p3 (starEach [] X.env)).any (·.1) = false)
    (hst2 : starEach [.Name xo a3] X.env = (false, eval (.Name xo a3) X.env) :: starEach [] X.env) (hpl2 : (backTo a4 (starEach [] X.env)).any (·.1) = false)
    (hbase : attributeBase (.Name xf a1) "append" X.env (eval (.Name xf a1) X.env) = eval (.Name xf a1) X.env)
    (hfew : ((backTo a4 (starEach [.Name xo a3] X.env)).all (fun x => !x.1) && (backToKw a4 (keywordEach [] X.env)).all (fun x => x.1.isSome)
      && decide (([.Name xo a3] : List Expr).length + ([] : List Keyword).length + (if ([] : List Keyword).isEmpty then 0 else 1) < 30)) = true) (hline : (a2.endLine == a4.line) = true)
    (hsw : swapsWith (.Call (.Attribute (.Name xf a1) "append" a2) [.Name xo a3] [] a4) none a5.line X.env = pure false) :
    PS X (.For (.Name xo po) (.Call (.Attribute (.Name xt pt) "ticks" apos) [] [⟨some "start", .Name xs psx, kpos⟩] cpos)
        [.If (.Compare (.Call (.Name "len" p1) [.Name xf p2] [] p3) [.Eq] [.Name xm p4] p5) [.Break p6] [] p7, .Expr (.Call (.Attribute (.Name xf a1) "append" a2) [.Name xo a3] [] a4) a5] [] pos)
      (fun D σ H => ∃ (p dx a b : Addr) (fs ps : List Int) (t : Nat) (d : Addr), σ[0]? = some (some (.ref p)) ∧ σ[1]? = some (some (.int t)) ∧ σ[2]? = some (some (.int 6)) ∧ σ[3]? = some (some (.ref d)) ∧ H p = some (.ins C dx (tmF a b)) ∧ H a = some (.lst (fs.map V.int)) ∧ H b = some (.lst (ps.map V.int)) ∧ a ≠ d ∧ b ≠ d ∧ ps ≠ [] ∧ H d = some (.lst []) ∧
        ∀ (qs : List Addr) (q6 : Addr) (H' : Hp), qs.length = 6 → (∀ j q, qs[j]? = some q → H' q = some (.tup [.int (t + j : Nat), .int (numAt fs ps (t + j))])) → H' d = some (.lst (qs.map V.ref)) → (∀ b o, H b = some o → b ≠ d → H' b = some o) → D.nx (σ.set 4 (some (.ref q6))) H') := by
  refine ⟨fun pins s σ H D I h => ?_⟩
  obtain ⟨p, dx, a, b, fs, ps, t, d, s0, s1, s2, s3, hp1, hp2, hp3, nad, nbd, hps, hd, fin⟩ := h
  have tm : TimesAt C H p fs ps := ⟨dx, a, b, hp1, hp2, hp3⟩
  refine wpAny_For ?_ hs
  refine PySem.W.methodCall_KW (pl := pl) (loc_val I n0 k0 s0 (fun u ru => ?_) d0) ht
  obtain rfl : u = Value.ref p := ru
  refine getmeth_ok I hp1 T2.cl hm (tmF_no a b (by decide) (by decide)) ?_
  refine PySem.W.callWith_KW0 (h₀ := X.base) (first := [.ref p]) I.ok.mod.kin hm.kp hall ?_ hpl
  show wpAny _ _ (evalAll ((do let v ← eval (.Name xs psx) X.env; standAt cpos; pure v) :: (backToKw cpos (keywordEach [] X.env)).map (·.2))) _ _ s
  refine wpAny_evalAll_cons (wpAny_bind (loc_val I n1 k1 s1 (fun u ru => ?_) d1))
  obtain ⟨tt, rfl⟩ := ru
  refine wpAny_bind (wpAny_standAt (wpAny_pure (wpAny_evalAll_nil ⟨I.kIn, ?_⟩)))
  rw [hkv]
  refine wpAny_mono (tk_mk (t := t) (tt := tt) F T2 hr I hps tm (hb s p t tt)) (fun u s4 hu => ?_) fun _ _ z => z
  obtain ⟨a0, gg, L, rfl, I4, Z, hL, ha, hgn, oL, oa, G⟩ := hu
  refine wpAny_pyIter_gen hgn ?_
  have dL : d ≠ L := fun z => by rw [z, hL] at hd; cases hd
  have da : d ≠ a0 := fun z => by rw [z, ha] at hd; cases hd
  refine codeAny_forLoop_any (fun n s' => ∃ (i : Nat) (qs : List Addr) (σ' : L2.St) (H' : Hp), n = 7 - i ∧ i ≤ 6 ∧ qs.length = i ∧ (∀ v, σ'.set 4 v = σ.set 4 v) ∧ (∀ j, j < 4 → σ'[j]? = σ[j]?) ∧ Inv X pins σ' H' s' ∧ H' L = none ∧ H' a0 = none ∧ s'.heap.IsGen a0 gg ∧
      TkGen X.prog X.w X.mg X.base X.stack C p L fs ps X.A.in1 gg (7 - i) (t + i) s' ∧ (∀ j q, qs[j]? = some q → H' q = some (.tup [.int (t + j : Nat), .int (numAt fs ps (t + j))])) ∧ H' d = some (.lst (qs.map V.ref)) ∧ ∀ b o, H b = some o → b ≠ d → H' b = some o) ?_ 7
    ⟨0, [], σ, H, rfl, by omega, rfl, fun _ => rfl, fun _ _ => rfl, I4, hL, ha, hgn, G 7, fun j q e => by simp at e, hd, fun _ _ e _ => e⟩
  rintro n s5 ⟨i, qs, σ5, H5, rfl, hi, hql, hσ, hσ4, I5, hL5, ha5, hg5, G5, hqs, hd5, hk5⟩
  have tm5 : TimesAt C H5 p fs ps := ⟨dx, a, b, hk5 _ _ hp1 (ne_of hp1 hd (by intro z; cases z)), hk5 _ _ hp2 nad, hk5 _ _ hp3 nbd⟩
  refine wpAny_passesOwn hp ?_
  have G5' : TkGen X.prog X.w X.mg X.base X.stack C p L fs ps X.A.in1 gg (6 - i + 1) (t + i) s5 := by
    rw [show 6 - i + 1 = 7 - i by omega]; exact G5
  refine tk_item (k := k) (hr.mono (by omega)) I5 Z hL5 ha5 G5' hg5 tm5 fun q s6 hq q1 q2 I6 G6 hg6 hoL6 => ?_
  refine wpAny_passesOwn hp (go_gen hg6 ?_)
  have nqd : d ≠ q := fun z => by rw [z, hq] at hd5; cases hd5
  -- L and the generator's object are pinned while the body runs
  obtain ⟨oLx, hLx, hLc⟩ := hoL6
  obtain ⟨oax, nmx, qnx, hax, hacx, hadx, hasx⟩ := id hg6
  have hLn : (upd H5 q (.tup [.int (t + i : Nat), .int (numAt fs ps (t + i))])) L = none := by rw [upd_ne (Ne.symm q1)]; exact hL5
  have han : (upd H5 q (.tup [.int (t + i : Nat), .int (numAt fs ps (t + i))])) a0 = none := by rw [upd_ne (Ne.symm q2)]; exact ha5
  have nfs : ∀ b, b ∉ frs X.stack → b ∉ X.fs := fun b hb z => hb (by
    rcases I6.ok.stk with e | ⟨e, hf⟩
    · rw [e]; exact z
    · rw [e]; unfold frs; rw [List.filterMap_cons, hf]; exact List.mem_cons_of_mem _ z)
  have a0L : a0 ≠ X.env.locals := fun z => by
    obtain ⟨m, ⟨o, es, ep, ho, hdd, _⟩, _⟩ := I6.loc
    rw [← z, hax] at ho
    cases ho
    rw [hadx] at hdd
    cases hdd
  have I7 : Inv X (pins ++ [(L, oLx), (a0, oax)]) σ5 _ s6 := I6.pins_of fun r hr' => by
    rcases List.mem_append.mp hr' with z | z
    · exact I6.pin r (List.mem_append_right _ z)
    · rcases List.mem_cons.mp z with z | z
      · rw [z]; exact ⟨hLx, hLn, Z.loc, nfs L Z.frL, hLc⟩
      · rw [List.mem_singleton.mp z]
        exact ⟨hax, han, a0L, nfs a0 Z.fr, fun v z => by rw [hadx] at z; cases z⟩
  -- what a state with these pins tells
  have back : ∀ {σ' : L2.St} {H' : Hp} {s' : Shared}, Inv X (pins ++ [(L, oLx), (a0, oax)]) σ' H' s' → s'.gens = s6.gens → Inv X pins σ' H' s' ∧ H' L = none ∧ H' a0 = none ∧ s'.heap.IsGen a0 gg ∧ TkGen X.prog X.w X.mg X.base X.stack C p L fs ps X.A.in1 gg (6 - i) (t + i + 1) s' := fun {σ' H' s'} I' hg' => by
    obtain ⟨z1, z2, _⟩ := I'.pin (L, oLx) (List.mem_append_right _ (List.mem_append_right _ List.mem_cons_self))
    obtain ⟨z3, z4, _⟩ := I'.pin (a0, oax) (List.mem_append_right _ (List.mem_append_right _ (List.mem_cons_of_mem _ List.mem_cons_self)))
    exact ⟨I'.unpinned, z2, z4, ⟨oax, nmx, qnx, z3, hacx, hadx, hasx⟩, G6.keep (by rw [hg']) fun o e => by rw [hLx] at e; cases e; exact z1⟩
  have hi5 : 4 < σ5.length := by rw [I5.len]; exact (List.getElem?_eq_some_iff.mp n4).1
  refine wpAny_passesOwn hp (wpAny_assign_Name (store_g I7 hND n4 k4 (v := .ref q) rfl fun s7 I8 hg7 => ?_))
  have hd8 : (upd H5 q (.tup [.int (t + i : Nat), .int (numAt fs ps (t + i))])) d = some (.lst (qs.map V.ref)) := by rw [upd_ne nqd]; exact hd5
  have get5 : ∀ j, j < 4 → (σ5.set 4 (some (.ref q)))[j]? = σ[j]? := fun j hj => by rw [List.getElem?_set_ne (by omega)]; exact hσ4 j hj
  refine wpAny_passesOwn hp (wpAny_execs_cons ?_)
  refine wpAny_mono (ft_test (i := 3) (j := 2) I8 gl ml n3 k3 ((get5 3 (by omega)).trans s3) hd8 n2 k2 ((get5 2 (by omega)).trans s2) d3 d2 hst1 hpl1) (fun f s9 h9 => ?_) fun _ _ z => z
  obtain ⟨I9, hg9, ef⟩ := h9
  have hql' : ((qs.map V.ref).length : Int) = (i : Int) := by rw [List.length_map, hql]
  by_cases hi6 : i = 6
  · rw [hql', if_pos (by omega)] at ef
    subst ef
    obtain ⟨J1, J2, J3, J4, J5⟩ := back I9 (hg9.trans hg7)
    refine ⟨_, _, J1, ?_⟩
    rw [hσ]
    refine fin qs q _ (by omega) (fun j q' e => ?_) hd8 fun b o e hb => ?_
    · have nq : q' ≠ q := fun z => by rw [← z, hqs j q' e] at hq; cases hq
      rw [upd_ne nq]; exact hqs j q' e
    · have e5 := hk5 b o e hb
      rw [upd_ne (ne_of_none e5 hq)]; exact e5
  · rw [hql', if_neg (by omega)] at ef
    subst ef
    have gO : (σ5.set 4 (some (.ref q)))[4]? = some (some (.ref q)) := List.getElem?_set_self hi5
    refine wpAny_execs_cons (wpAny_mono (ft_append (i := 3) (j := 4) I9 n3 k3 ((get5 3 (by omega)).trans s3) hd8 (by rw [List.length_map]; omega) n4 k4 gO d3 d4 hst2 hpl2 hbase hfew hline hsw) (fun f s10 h10 => ?_) fun _ _ z => z)
    obtain ⟨I10, hg10, rfl⟩ := h10
    refine wpAny_execs_nil ?_
    obtain ⟨J1, J2, J3, J4, J5⟩ := back I10 (hg10.trans (hg9.trans hg7))
    refine ⟨6 - i, by omega, i + 1, qs ++ [q], _, _, by omega, by omega, by simp [hql], fun v => by rw [List.set_set]; exact hσ v, get5, J1, J2, J3, J4, ?_, fun j q' e => ?_, ?_, fun b o e hb => ?_⟩
    · rw [show 7 - (i + 1) = 6 - i by omega, show t + (i + 1) = t + i + 1 by omega]; exact J5
    · by_cases hj : j < qs.length
      · rw [List.getElem?_append_left hj] at e
        have e' := hqs j q' e
        have nq : q' ≠ q := fun z => by rw [← z, e'] at hq; cases hq
        have nd : q' ≠ d := ne_of e' hd5 (by intro z; cases z)
        rw [upd_ne nd, upd_ne nq]; exact e'
      · have hj2 : j = qs.length := by
          have := (List.getElem?_eq_some_iff.mp e).1
          rw [List.length_append, List.length_singleton] at this
          omega
        subst hj2
        have e' : q = q' := by simpa using e
        subst e'
        rw [upd_ne (Ne.symm nqd), upd_same, hql]
    · rw [upd_same, List.map_append]; rfl
    · have e5 := hk5 b o e hb
      rw [upd_ne hb, upd_ne (ne_of_none e5 hq)]; exact e5
end
end R49
set_option maxHeartbeats 4000000
/-! the text by places; short words for the promises -/
namespace R49
open PySem PySem.Spec PyProof.Rows L2
def top (i : Nat) : Stmt := PySem.Challenge.pw_allbrokers_k49_whole_reader_shapes.main.body.getD i (.Pass ⟨0, 0, 0, 0⟩)
abbrev sNat : Stmt := top 14
abbrev sNums : Stmt := top 15
abbrev sCommon : Stmt := top 16
abbrev sNum : Stmt := top 17
abbrev sSummed : Stmt := top 18
abbrev cTimes : Stmt := top 19
abbrev sTmInit : Stmt := inClass cTimes 0
abbrev sTmEq : Stmt := inClass cTimes 1
abbrev sTmGet : Stmt := inClass cTimes 2
abbrev sTmAdd : Stmt := inClass cTimes 4
abbrev sTmMul : Stmt := inClass cTimes 5
abbrev sTmAt : Stmt := inClass cTimes 6
abbrev sTmTicks : Stmt := inClass cTimes 7
abbrev sChkTm : Stmt := top 20
abbrev sJoint : Stmt := top 21
abbrev sLagInit : Stmt := inClass (top 22) 1
abbrev sLagBool : Stmt := inClass (top 22) 2
abbrev sGrInit : Stmt := inClass (top 23) 1
abbrev sGrBool : Stmt := inClass (top 23) 2
abbrev sLags : Stmt := top 24
abbrev sGrowth : Stmt := top 25
abbrev sGreat : Stmt := top 26
abbrev sLines : Stmt := top 27
abbrev sWord : Stmt := top 31
abbrev sLetters : Stmt := top 32
abbrev sSteps : Stmt := top 33
abbrev cReader : Stmt := top 34
abbrev sRdInit : Stmt := inClass cReader 0
abbrev sRdLen : Stmt := inClass cReader 2
abbrev sRdCall : Stmt := inClass cReader 3
abbrev sRdAfter : Stmt := inClass cReader 4
abbrev sRdAns : Stmt := inClass cReader 5
abbrev sBehind : Stmt := top 35
abbrev sChkLane : Stmt := top 36
abbrev sChkRd : Stmt := top 37
abbrev sLed : Stmt := top 38
abbrev sLNumber : Stmt := top 40
abbrev sLTake : Stmt := top 41
abbrev sLPick : Stmt := top 42
abbrev sLLetters : Stmt := top 43
abbrev sLSteps : Stmt := top 44
abbrev sLReader : Stmt := top 45
abbrev sLLed : Stmt := top 47
abbrev sLRow : Stmt := top 48
abbrev sLFirst : Stmt := top 49
abbrev sLRef : Stmt := top 50
abbrev sLLane : Stmt := top 51
abbrev sLWide : Stmt := top 52
abbrev sLLines : Stmt := top 53
abbrev sLaw : Stmt := top 54
/-- a def that stands behind the top, called by its name nm -/
structure Cal (P : Program) (w : World) (K : PySem.W.Frag) (mg : Str → Option Value) (base : Heap) (CX : CXT) (k : Nat) (nm : Str) (f : Addr) (fd : FuncData) (ps : List Str) (sp : Sp) : Prop where
  ok : FnOk P w K mg base CX k f fd ps sp
  g : mg nm = some (.ref f)
  kp : PySem.W.keepIn K (.ref f) = true
  b : Binds K fd ps []
/-- a method -/
structure CalM (P : Program) (w : World) (K : PySem.W.Frag) (mg : Str → Option Value) (base : Heap) (CX : CXT) (k : Nat) (C : Addr) (nm : Str) (f : Addr) (fd : FuncData) (ps : List Str) (sp : Sp) : Prop where
  ok : FnOk P w K mg base CX k f fd ps sp
  m : Meth K C nm f
  b : Binds K fd ps []
/-- the builtins that the texts call are no globals -/
structure NoG (mg : Str → Option Value) : Prop where
  len : mg "len" = none
  range : mg "range" = none
  isinstance : mg "isinstance" = none
  int : mg "int" = none
  bool : mg "bool" = none
  list : mg "list" = none
  tuple : mg "tuple" = none
  dict : mg "dict" = none
  str : mg "str" = none
  all : mg "all" = none
  sum : mg "sum" = none
  max : mg "max" = none
  zip : mg "zip" = none
  abs : mg "abs" = none
theorem same_upd {H H1 : Hp} {D : Addr} {o : HO} (h : Same H H1) (hD : H D = none) : Same H (upd H1 D o) := fun b u e => by
  rw [upd_ne (ne_of_none e hD)]
  exact h b u e
theorem iteND {c A B : Prop} [Decidable c] (hc : ¬ c) (h : A) : if (!decide c) = true then A else B := by
  rw [decide_eq_false hc]
  exact iteT h
theorem iteD {c A B : Prop} [Decidable c] (hc : c) (h : A) : if (decide c) = true then A else B := by
  rw [decide_eq_true hc]
  exact iteT h
theorem iteDN {c A B : Prop} [Decidable c] (hc : ¬ c) (h : B) : if (decide c) = true then A else B := by
  rw [decide_eq_false hc]
  exact iteF h
theorem iteB {b : Bool} {A B : Prop} (hb : b = true) (h : A) : if b = true then A else B := by
  rw [if_pos hb]
  exact h
theorem int_ne {i j : Int} (h : i ≠ j) : ¬ (V.int i = V.int j) := fun z => h (by cases z; rfl)
/-- a list of ints that stands -/
abbrev iV (xs : List Int) : List V := xs.map V.int
theorem iV_get {xs : List Int} {i : Nat} {y : V} (h : (iV xs)[i]? = some y) : ∃ z, xs[i]? = some z ∧ y = V.int z := by
  rw [List.getElem?_map] at h
  cases e : xs[i]? with
  | none => rw [e] at h; cases h
  | some z => rw [e] at h; exact ⟨z, rfl, (Option.some.inj h).symm⟩
theorem take_up {α : Type} {l : List α} {i : Nat} {x : α} (h : l[i]? = some x) : l.take i ++ [x] = l.take (i + 1) := by
  rw [List.take_succ, h] <;> rfl
section
variable {K : PySem.W.Frag} {a : Addr} {xs : List V} {g : TG} {te : TE} {vs : List Nat} {σ : L2.St} {H1 : Hp} {D : Addr} {Qd : Hp → Prop}
/-- one turn of such a comprehension -/
theorem lcs_turn (hD : H1 D = none) {ys : List V} {i : Nat} {y : V} {H4 : Hp} (hy : ys[i]? = some y) (hz : ys.length ≤ 1000) (s : Same H1 H4) (hd : H4 D = some (.lst (ys.take i))) :
    ∃ acc, H4 D = some (.lst acc) ∧ acc.length < sizeLine ∧ (Same H1 (upd H4 D (.lst (acc ++ [y]))) ∧ (upd H4 D (.lst (acc ++ [y]))) D = some (.lst (ys.take (i + 1)))) := by
  refine ⟨ys.take i, hd, small1000 (by simp; omega), same_upd s hD, ?_⟩
  rw [upd_same, take_up hy]
/-- the items of a comprehension over a list, each made with nothing touched -/
theorem lcs_list (hD : H1 D = none) (hl : SqL K H1 a xs) (ys : List V) (hn : ys.length = xs.length) (hz : xs.length ≤ 1000)
    (hs : ∀ (i : Nat) (x y : V) (H : Hp) (Q : VK), xs[i]? = some x → ys[i]? = some y → Same H1 H → (∀ H', Same H H' → Q y H') → g x (wipe σ vs) H fun σ2 H2 => wipe σ2 vs = wipe σ vs ∧ te σ2 H2 Q)
    (hd : ∀ H, Same H1 H → H D = some (.lst ys) → Qd H) :
    ∃ W : Nat → Nat → Hp → Prop, (∃ m, W 0 m (upd H1 D (.lst []))) ∧ ∀ i m H, W i m H →
      ((Itl K a).stop i H ∧ Qd H) ∨ ((Itl K a).go i H ∧ ∃ Nx : Hp → Prop, (∀ H', Nx H' → ∃ m', m' < m ∧ W (i + 1) m' H') ∧ ∀ x H', (Itl K a).yld i H x H' → g x (wipe σ vs) H' fun σ2 H2 => wipe σ2 vs = wipe σ vs ∧ tYes σ2 H2 fun b H3 =>
        if b = true then te σ2 H3 fun y H4 => ∃ acc, H4 D = some (.lst acc) ∧ acc.length < sizeLine ∧ Nx (upd H4 D (.lst (acc ++ [y]))) else Nx H3) := by
  refine lc_list (xs := xs) (fun i H => Same H1 H ∧ H D = some (.lst (ys.take i))) ⟨same_upd (Same.refl _) hD, upd_same⟩ (fun i H _ h => h.1.seq hl) (fun i x H hx h => ?_) (fun H h => hd H h.1 (by rw [h.2, ← hn, List.take_length]))
  have hlt : i < xs.length := (List.getElem?_eq_some_iff.mp hx).1
  have hy : ys[i]? = some (ys[i]'(by omega)) := by simp [hn, hlt]
  exact hs i x _ H _ hx hy h.1 fun H' s' => lcs_turn hD hy (by omega) (h.1.trans s') (s' _ _ h.2)
theorem lcs_tup (hD : H1 D = none) (hl : SqT K H1 a xs) (hst : ∀ H, Same H1 H → SqT K H a xs) (ys : List V) (hn : ys.length = xs.length) (hz : xs.length ≤ 1000)
    (hs : ∀ (i : Nat) (x y : V) (H : Hp) (Q : VK), xs[i]? = some x → ys[i]? = some y → Same H1 H → (∀ H', Same H H' → Q y H') → g x (wipe σ vs) H fun σ2 H2 => wipe σ2 vs = wipe σ vs ∧ te σ2 H2 Q)
    (hd : ∀ H, Same H1 H → H D = some (.lst ys) → Qd H) :
    ∃ W : Nat → Nat → Hp → Prop, (∃ m, W 0 m (upd H1 D (.lst []))) ∧ ∀ i m H, W i m H →
      ((Itt K a).stop i H ∧ Qd H) ∨ ((Itt K a).go i H ∧ ∃ Nx : Hp → Prop, (∀ H', Nx H' → ∃ m', m' < m ∧ W (i + 1) m' H') ∧ ∀ x H', (Itt K a).yld i H x H' → g x (wipe σ vs) H' fun σ2 H2 => wipe σ2 vs = wipe σ vs ∧ tYes σ2 H2 fun b H3 =>
        if b = true then te σ2 H3 fun y H4 => ∃ acc, H4 D = some (.lst acc) ∧ acc.length < sizeLine ∧ Nx (upd H4 D (.lst (acc ++ [y]))) else Nx H3) := by
  refine lc_tup (xs := xs) (fun i H => Same H1 H ∧ H D = some (.lst (ys.take i))) ⟨same_upd (Same.refl _) hD, upd_same⟩ (fun i H _ h => hst H h.1) (fun i x H hx h => ?_) (fun H h => hd H h.1 (by rw [h.2, ← hn, List.take_length]))
  have hlt : i < xs.length := (List.getElem?_eq_some_iff.mp hx).1
  have hy : ys[i]? = some (ys[i]'(by omega)) := by simp [hn, hlt]
  exact hs i x _ H _ hx hy h.1 fun H' s' => lcs_turn hD hy (by omega) (h.1.trans s') (s' _ _ h.2)
end
theorem seqT {K : PySem.W.Frag} {H H' : Hp} {a : Addr} {xs : List V} (e : Same H H') (h : SqT K H a xs) : SqT K H' a xs := by
  rcases h with (h | ⟨o, h⟩) | h
  · exact .inl (.inl (e _ _ h))
  · exact .inl (.inr ⟨o, e _ _ h⟩)
  · exact .inr h
end R49
set_option maxHeartbeats 4000000
/-! is_natural, are_numbers, common, number_at -/
namespace R49
open PySem PySem.Spec PyProof.Rows L2
section
variable {P : Program} {w : World} {K : PySem.W.Frag} {mg : Str → Option Value} {base : Heap}
/-! ### is_natural -/
def natB (i m : Int) : Bool := decide (0 ≤ i) && decide (i ≤ m)
def spNat : Sp := fun vs H Q _ => ∃ (i m : Int), vs = [.int i, .int m] ∧ Q (.bl (natB i m)) H
theorem scNat : FnScope ["thing", "most"] ["thing", "most"] (defScope sNat) := ⟨rfl, rfl, rfl, by decide +kernel, rfl, by decide +kernel, by decide +kernel⟩
theorem kit_ii : kitB "int" "int" = some true := by decide +kernel
theorem kit_ib : kitB "int" "bool" = some false := by decide +kernel
theorem ok_nat {f : Addr} {fd : FuncData} (F : Fun K "is_natural" "is_natural" sNat f fd) (N : NoG mg) : FnOk P w K mg base CX0 1 f fd ["thing", "most"] spNat := by
  refine F.ok scNat (fun vs H Q E h => ?_) (fun cdv A outer s H vs Q E hr h => ?_)
  · obtain ⟨i, m, rfl, _⟩ := h
    rfl
  · obtain ⟨i, m, rfl, k⟩ := h
    refine ⟨_, pss_one (ps_ret (pe_and (pe_callB call_isi (by rfl) N.isinstance PyProof.Rows.boot_isinstance (pa_cons (pv 0) (pa_cons (pe_bltn (by rfl) N.int PyProof.Rows.boot_int (v := .ty "int") rfl) pa_nil)))
      (pe_and (pe_not (pe_callB call_isi (by rfl) N.isinstance PyProof.Rows.boot_isinstance (pa_cons (pv 0) (pa_cons (pe_bltn (by rfl) N.bool PyProof.Rows.boot_bool (v := .ty "bool") rfl) pa_nil))))
        (pe_one (pe_chain op_le op_le pe_int (pv 0) (pv 1)))))), ?_⟩
    refine ⟨_, rfl, .int i, .ty "int", .type "int", _, true, rfl, .ty _, .base (.int i), kit_ty kit_ii, true, rfl, ?_⟩
    refine iteT ?_
    refine ⟨_, rfl, .int i, .ty "bool", .type "int", _, false, rfl, .ty _, .base (.int i), kit_ty kit_ib, false, rfl, true, rfl, ?_⟩
    refine iteT ?_
    refine ⟨_, rfl, _, _, rfl, rfl, _, rfl, ?_⟩
    unfold natB at k
    refine ite2 (fun c => ?_) (fun c => ?_)
    · rw [c] at k
      exact ⟨_, rfl, _, _, rfl, rfl, k⟩
    · rw [Bool.eq_false_iff.mpr c] at k
      exact k
/-! ### are_numbers -/
def numsB (xs : List Int) : Bool := decide (xs.length ≤ 24) && xs.all fun i => natB i 100
def spNums : Sp := fun vs H Q _ => ∃ (a : Addr) (xs : List Int), vs = [.ref a] ∧ H a = some (.lst (iV xs)) ∧ xs.length ≤ 1000 ∧ ∀ H', Same H H' → Q (.bl (numsB xs)) H'
theorem scNums : FnScope ["thing", "one"] ["thing"] (defScope sNums) := ⟨rfl, rfl, rfl, by decide +kernel, rfl, by decide +kernel, by decide +kernel⟩
theorem kit_ll : kitB "list" "list" = some true := by decide +kernel
theorem kit_tt : kitB "tuple" "tuple" = some true := by decide +kernel
theorem kit_tl : kitB "tuple" "list" = some false := by decide +kernel
theorem kit_lt {K : PySem.W.Frag} : PySem.W.kitAny K (.type "list") [.type "list", .type "tuple"] = some true := kitAny_cons (kit_ty kit_ll) (fun z => by cases z) (fun _ => rfl)
/-- isinstance(x, (list, tuple)) for a list x, just ahead of the tuple's making -/
theorem isiT_list {K : PySem.W.Frag} {H : Hp} {a : Addr} {xs : List V} {Q : VK} (hd : H a = some (.lst xs)) (q : ∀ H', Same H H' → Q (.bl true) H') :
    tTup (tCons (tC (.ty "list")) (tCons (tC (.ty "tuple")) tNil)) [] H fun x H1 => rIsiT K [.ref a, x] H1 Q := by
  refine ⟨(by show 2 ≤ sizeLine; decide), fun t ht => ?_⟩
  refine ⟨.ref a, t, [.ty "list", .ty "tuple"], .type "list", [.type "list", .type "tuple"], true, rfl, upd_same, .cons (.ty _) (.cons (.ty _) .nil), .base (.lst (xs := xs) (by rw [upd_ne (ne_of_none hd ht)]; exact hd)), kit_lt, q _ (same_upd (Same.refl _) ht)⟩
theorem ok_nums {f fN : Addr} {fd fdN : FuncData} (F : Fun K "are_numbers" "are_numbers" sNums f fd) (N : NoG mg) {tk1 tk2 : Tok} (m24 : mg "MOST_TICKS" = some (.int 24 tk1)) (m100 : mg "MOST_NUMBER" = some (.int 100 tk2))
    (FN : Cal P w K mg base CX0 1 "is_natural" fN fdN ["thing", "most"] spNat) : FnOk P w K mg base CX0 2 f fd ["thing"] spNums := by
  refine F.ok scNums (fun vs H Q E h => ?_) (fun cdv A outer s H vs Q E hr h => ?_)
  · obtain ⟨a, xs, rfl, _⟩ := h
    rfl
  · obtain ⟨a, xs, rfl, hd, hz, k⟩ := h
    refine ⟨_, pss_cons (ps_if (PW.pt (pw_or (pt_not (pt_val (pe_callB call_isiT (by rfl) N.isinstance PyProof.Rows.boot_isinstance (pa_cons (pv 0) (pa_cons (pe_tup (pa_cons (pe_bltn (by rfl) N.list PyProof.Rows.boot_list (v := .ty "list") rfl) (pa_cons (pe_bltn (by rfl) N.tuple PyProof.Rows.boot_tuple (v := .ty "tuple") rfl) pa_nil))) pa_nil)))))
        (pw_or1 (pt_cmpR op_gt (pe_callB call_len_seq (by rfl) N.len PySem.boot_len (pa_cons (pv 0) pa_nil)) (pe_glob (v := .int 24) (by rfl) m24 ⟨_, rfl⟩) (nomark _))))) (pss_one (ps_ret pe_bl)) pss_nil)
      (pss_one (ps_ret (pe_callB (cr_all rfl) (by rfl) N.all PyProof.Rows.boot_all (pa_cons
        (pe_lc (own := [("one", 1)]) (g := gName 1) (tt := tYes) rfl scNums.nd (pi_list (pv 0)) (blkOk_by (N := ["thing", "one"]) (sc := defScope sNums) (by decide +kernel)) (fun _ _ _ _ _ => pg_name (i := 1) scNums.nd rfl (Or.inl rfl)) (fun _ _ _ _ _ => pts_nil)
          (fun _ _ _ _ _ => pe_call FN.ok hr (by rfl) FN.g FN.kp FN.b .nil pass0 (pa_cons (pv 1) (pa_cons (pe_glob (v := .int 100) (by rfl) m100 ⟨_, rfl⟩) pa_nil)))) pa_nil)))), ?_⟩
    refine ⟨_, rfl, (by show 2 ≤ sizeLine; decide), fun t ht => ?_⟩
    have s1 : Same H (upd H t (.tup [.ty "list", .ty "tuple"])) := same_upd (Same.refl _) ht
    refine ⟨.ref a, t, [.ty "list", .ty "tuple"], .type "list", [.type "list", .type "tuple"], true, rfl, upd_same, .cons (.ty _) (.cons (.ty _) .nil), .base (.lst (xs := iV xs) (s1 _ _ hd)), kit_lt, true, rfl, ?_⟩
    refine iteF ?_
    refine ⟨_, rfl, a, _, rfl, .inl (.of (s1 _ _ hd)), _, _, rfl, rfl, _, rfl, ?_⟩
    have el : ((iV xs).length : Int) = (xs.length : Int) := by rw [List.length_map]
    refine ite2 (fun c => ?_) (fun c => ?_)
    · have c' : (24 : Int) < (xs.length : Int) := by simpa using c
      have : numsB xs = false := by unfold numsB; rw [decide_eq_false (by omega)] <;> rfl
      rw [this] at k
      exact k _ s1
    · have c' : ¬ (24 : Int) < (xs.length : Int) := by simpa using c
      refine ⟨_, rfl, a, rfl, ⟨_, SqL.of (s1 _ _ hd)⟩, fun D hD => ?_⟩
      refine lcs_list hD (SqL.of (s1 _ _ hd)) ((xs.map fun i => natB i 100).map V.bl) (by simp) (by simpa using hz) (fun i x y H2 Q2 hx hy s2 q => ?_) (fun H2 s2 hl => ?_)
      · obtain ⟨z, hz1, rfl⟩ := iV_get hx
        simp [hz1] at hy
        subst hy
        exact ⟨rfl, _, rfl, z, 100, rfl, q _ (Same.refl _)⟩
      · refine ⟨D, _, rfl, SqL.of hl, ?_⟩
        have : numsB xs = (xs.map fun i => natB i 100).all id := by
          unfold numsB
          rw [decide_eq_true (by omega), List.all_map]
          rfl
        rw [← this]
        exact k _ (s1.trans s2)
end
end R49
set_option maxHeartbeats 4000000
/-! common, number_at -/
namespace R49
open PySem PySem.Spec PyProof.Rows L2
/-- the least common multiple, as the text makes it -/
def cm (a b : Nat) : Nat := a / Nat.gcd a b * b
theorem cm_pos {a b : Nat} (ha : 0 < a) (hb : 0 < b) : 0 < cm a b := by
  have hg : 0 < Nat.gcd a b := Nat.gcd_pos_of_pos_left _ ha
  have h1 : 0 < a / Nat.gcd a b := Nat.div_pos (Nat.le_of_dvd ha (Nat.gcd_dvd_left a b)) hg
  exact Nat.mul_pos h1 hb
theorem cm_right (a b : Nat) : b ∣ cm a b := Nat.dvd_mul_left _ _
theorem cm_lcm (a b : Nat) : cm a b = Nat.lcm a b := by
  unfold cm Nat.lcm
  rw [Nat.mul_comm a b, Nat.mul_div_assoc b (Nat.gcd_dvd_left a b), Nat.mul_comm]
theorem cm_left (a b : Nat) : a ∣ cm a b := by
  rw [cm_lcm]
  exact Nat.dvd_lcm_left a b
theorem cm_comm (a b : Nat) : cm a b = cm b a := by rw [cm_lcm, cm_lcm, Nat.lcm_comm]
theorem cm_one (b : Nat) : cm 1 b = b := by rw [cm_lcm, Nat.lcm_one_left]
theorem cm_le {a b : Nat} : cm a b ≤ a * b := Nat.mul_le_mul_right _ (Nat.div_le_self _ _)
section
variable {P : Program} {w : World} {K : PySem.W.Frag} {mg : Str → Option Value} {base : Heap}
def spCommon : Sp := fun vs H Q _ => ∃ (a b : Nat), vs = [.int a, .int b] ∧ 0 < a ∧ a < 1000000 ∧ b < 1000000 ∧ Q (.int (cm a b : Nat)) H
theorem scCommon : FnScope ["one", "two", "rest", "last"] ["one", "two"] (defScope sCommon) := ⟨rfl, rfl, rfl, by decide +kernel, rfl, by decide +kernel, by decide +kernel⟩
theorem ok_common {f : Addr} {fd : FuncData} (F : Fun K "common" "common" sCommon f fd) : FnOk P w K mg base CX0 1 f fd ["one", "two"] spCommon := by
  refine F.ok scCommon (fun vs H Q E h => ?_) (fun cdv A outer s H vs Q E hr h => ?_)
  · obtain ⟨a, b, rfl, _⟩ := h
    rfl
  · obtain ⟨a, b, rfl, ha, ha2, hb2, k⟩ := h
    refine ⟨_, pss_cons (ps_par (i := 2) (j := 3) rfl scCommon.nd rfl rfl (by decide) rfl rfl (pa_cons (pv 0) (pa_cons (pv 1) pa_nil)) rfl)
      (pss_cons (ps_while PassesOwn.never (pt_cmpR op_ne (pv 3) pe_int (nomark _))
        (pss_one (ps_par (i := 2) (j := 3) rfl scCommon.nd rfl rfl (by decide) rfl rfl (pa_cons (pv 3) (pa_cons (pe_op op_mod (pv 2) (pv 3)) pa_nil)) rfl)))
      (pss_one (ps_ret (pe_op op_mul (pe_op op_fdiv (pv 0) (pv 2)) (pv 1))))), ?_⟩
    refine ⟨_, rfl, _, rfl, _, _, rfl, ?_⟩
    refine while_by (fun σ H' => ∃ r l : Nat, σ = [some (.int a), some (.int b), some (.int r), some (.int l)] ∧ H' = H ∧ Nat.gcd r l = Nat.gcd a b) (fun σ _ => match σ with | [_, _, _, some (.int l)] => l.toNat | _ => 0) ⟨a, b, rfl, rfl, rfl⟩ ?_ ?_
    · rintro σ H' ⟨r, l, rfl, rfl, hg⟩
      refine ⟨_, rfl, rfl, _, rfl, ?_⟩
      by_cases c : l = 0
      · subst c
        refine iteNS rfl ?_
        have hg' : r = Nat.gcd a b := by rw [← hg, Nat.gcd_zero_right]
        subst hg'
        have hpos : 0 < Nat.gcd a b := Nat.gcd_pos_of_pos_left _ ha
        have hle : Nat.gcd a b ≤ a := Nat.le_of_dvd ha (Nat.gcd_dvd_left a b)
        refine ⟨_, rfl, _, rfl, _, _, rfl, rfl, ⟨by omega, by omega⟩, _, rfl, _, _, rfl, rfl, .inr ⟨by omega, by omega⟩, ?_⟩
        exact k
      · refine iteND (int_ne (by omega)) ?_
        refine ⟨_, rfl, _, rfl, _, rfl, _, _, rfl, rfl, (by show (0 : Int) < (l : Int); omega), _, _, rfl, ⟨l, r % l, ?_, rfl, ?_⟩, ?_⟩
        · rw [Int.natCast_emod]
          rfl
        · rw [← hg, Nat.gcd_comm l, ← Nat.gcd_rec, Nat.gcd_comm]
        · have hm : r % l < l := Nat.mod_lt _ (by omega)
          show ((r : Int) % (l : Int)).toNat < ((l : Int)).toNat
          omega
    · intro σ H' Q1 Q2 q h
      obtain ⟨x, hx, e, k', e2, h⟩ := h
      exact ⟨x, hx, e, k', e2, q _ _ h⟩
/-! ### number_at -/
theorem scNum : FnScope ["front", "period", "tick"] ["front", "period", "tick"] (defScope sNum) := ⟨rfl, rfl, rfl, by decide +kernel, rfl, by decide +kernel, by decide +kernel⟩
theorem ok_num {f : Addr} {fd : FuncData} (F : Fun K "number_at" "number_at" sNum f fd) (N : NoG mg) : FnOk P w K mg base CX0 1 f fd ["front", "period", "tick"] (spNum K) := by
  refine F.ok scNum (fun vs H Q E h => ?_) (fun cdv A outer s H vs Q E hr h => ?_)
  · obtain ⟨a, b, fs, ps, t, rfl, _⟩ := h
    rfl
  · obtain ⟨a, b, fs, ps, t, rfl, hf, hp, hne, k⟩ := h
    have hpl : 0 < ps.length := List.length_pos_iff.mpr hne
    refine ⟨_, pss_one (ps_ret (pe_ifExp (pt_cmpR op_lt (pv 2) (pe_callB call_len_seq (by rfl) N.len PySem.boot_len (pa_cons (pv 0) pa_nil)) (nomark _))
      (pe_ix ix_list (pv 0) (pv 2) (fun _ _ => rfl))
      (pe_ix ix_list (pv 1) (pe_op op_mod (pe_op op_sub (pv 2) (pe_callB call_len_seq (by rfl) N.len PySem.boot_len (pa_cons (pv 0) pa_nil))) (pe_callB call_len_seq (by rfl) N.len PySem.boot_len (pa_cons (pv 1) pa_nil))) (fun _ _ => rfl)))), ?_⟩
    unfold numAt at k
    refine ⟨_, rfl, _, rfl, _, _, rfl, .inl hf, _, _, rfl, rfl, _, rfl, ?_⟩
    rw [List.length_map]
    by_cases c : t < fs.length
    · rw [if_pos c] at k
      refine iteD (by omega) ?_
      refine ⟨_, rfl, _, rfl, a, _, _, _, rfl, rfl, hf, atI_nat (by rw [List.getElem?_map]; simp [c]; rfl), ?_⟩
      simpa [List.getD_eq_getElem?_getD, c] using k
    · rw [if_neg c] at k
      refine iteDN (by omega) ?_
      refine ⟨_, rfl, _, rfl, _, rfl, _, _, rfl, .inl hf, _, _, rfl, rfl, _, rfl, _, _, rfl, .inl hp, _, _, rfl, rfl, (by show (0 : Int) < ((iV ps).length : Int); rw [List.length_map]; omega), ?_⟩
      have hm : (t - fs.length) % ps.length < ps.length := Nat.mod_lt _ hpl
      have e : ((t : Int) - ((iV fs).length : Int)) % ((iV ps).length : Int) = (((t - fs.length) % ps.length : Nat) : Int) := by
        rw [List.length_map, List.length_map, Int.natCast_emod, show (t : Int) - (fs.length : Int) = ((t - fs.length : Nat) : Int) by omega]
      refine ⟨b, _, _, _, rfl, rfl, hp, at_of e (by rw [List.getElem?_map]; simp [hm]; rfl), ?_⟩
      simpa [List.getD_eq_getElem?_getD, hm] using k
end
end R49
set_option maxHeartbeats 4000000
/-! summed -/
namespace R49
open PySem PySem.Spec PyProof.Rows L2
/-- the numbers of two timetables added -/
def sumAt (f1 p1 f2 p2 : List Int) (t : Nat) : Int := numAt f1 p1 t + numAt f2 p2 t
def sumL (f1 f2 : List Int) : Nat := max f1.length f2.length
def sumM (p1 p2 : List Int) : Nat := cm p1.length p2.length
def sumAll (f1 p1 f2 p2 : List Int) : List Int := (List.range (sumL f1 f2 + sumM p1 p2)).map (sumAt f1 p1 f2 p2)
def sumF (f1 p1 f2 p2 : List Int) : List Int := (sumAll f1 p1 f2 p2).take (sumL f1 f2)
def sumP (f1 p1 f2 p2 : List Int) : List Int := (sumAll f1 p1 f2 p2).drop (sumL f1 f2)
/-- a timetable's two lists, short -/
structure Tb (fs ps : List Int) : Prop where
  f : fs.length ≤ 24
  p : ps.length ≤ 24
  n : ps ≠ []
theorem Tb.pos {fs ps : List Int} (h : Tb fs ps) : 0 < ps.length := List.length_pos_iff.mpr h.n
theorem sumAll_len (f1 p1 f2 p2 : List Int) : (sumAll f1 p1 f2 p2).length = sumL f1 f2 + sumM p1 p2 := by
  unfold sumAll
  simp
theorem sumM_le {f1 p1 f2 p2 : List Int} (h1 : Tb f1 p1) (h2 : Tb f2 p2) : sumM p1 p2 ≤ 576 := by
  have := cm_le (a := p1.length) (b := p2.length)
  have h3 : p1.length * p2.length ≤ 24 * 24 := Nat.mul_le_mul h1.p h2.p
  unfold sumM
  omega
theorem sumL_le {f1 p1 f2 p2 : List Int} (h1 : Tb f1 p1) (h2 : Tb f2 p2) : sumL f1 f2 ≤ 24 := by
  have := h1.f
  have := h2.f
  unfold sumL
  omega
theorem sumM_pos {f1 p1 f2 p2 : List Int} (h1 : Tb f1 p1) (h2 : Tb f2 p2) : 0 < sumM p1 p2 := cm_pos h1.pos h2.pos
theorem cut_lo {xs : List V} {n : Nat} (h : n ≤ xs.length) : cutV xs none (some (n : Int)) = xs.take n := by
  unfold cutV
  rw [HT.sIx_nat, HT.sIx_none, Nat.min_eq_left h]
  simp
theorem cut_hi {xs : List V} {n : Nat} (h : n ≤ xs.length) : cutV xs (some (n : Int)) none = xs.drop n := by
  unfold cutV
  rw [HT.sIx_nat, HT.sIx_none, Nat.min_eq_left h, List.take_of_length_le]
  rw [List.length_drop]
  exact Nat.le_refl _
section
variable {P : Program} {w : World} {K : PySem.W.Frag} {mg : Str → Option Value} {base : Heap}
/-- a pair (front, period) stands at t -/
def PairAt (K : PySem.W.Frag) (H : Hp) (t a b : Addr) (fs ps : List Int) : Prop := SqT K H t [.ref a, .ref b] ∧ SqL K H a (iV fs) ∧ SqL K H b (iV ps)
theorem PairAt.same {H H' : Hp} {t a b : Addr} {fs ps : List Int} (h : PairAt K H t a b fs ps) (s : Same H H') : PairAt K H' t a b fs ps := ⟨seqT s h.1, s.seq h.2.1, s.seq h.2.2⟩
def spSummed (K : PySem.W.Frag) : Sp := fun vs H Q _ => ∃ (a t1 t2 a1 b1 a2 b2 : Addr) (f1 p1 f2 p2 : List Int), vs = [.ref a] ∧ SqL K H a [.ref t1, .ref t2] ∧ PairAt K H t1 a1 b1 f1 p1 ∧ PairAt K H t2 a2 b2 f2 p2 ∧ Tb f1 p1 ∧ Tb f2 p2 ∧
  ∀ (H' : Hp) (t x y : Addr), Same H H' → H' t = some (.tup [.ref x, .ref y]) → H' x = some (.lst (iV (sumF f1 p1 f2 p2))) → H' y = some (.lst (iV (sumP f1 p1 f2 p2))) → Q (.ref t) H'
theorem scSummed : FnScope ["tables", "longest", "many", "front", "period", "sums", "tick"] ["tables"] (defScope sSummed) := ⟨rfl, rfl, rfl, by decide +kernel, rfl, by decide +kernel, by decide +kernel⟩
theorem ok_summed {f fN fC : Addr} {fd fdN fdC : FuncData} (F : Fun K "summed" "summed" sSummed f fd) (N : NoG mg)
    (FN : Cal P w K mg base CX0 1 "number_at" fN fdN ["front", "period", "tick"] (spNum K)) (FC : Cal P w K mg base CX0 1 "common" fC fdC ["one", "two"] spCommon) : FnOk P w K mg base CX0 2 f fd ["tables"] (spSummed K) := by
  refine F.ok scSummed (fun vs H Q E h => ?_) (fun cdv A outer s H vs Q E hr h => ?_)
  · obtain ⟨a, t1, t2, a1, b1, a2, b2, f1, p1, f2, p2, rfl, _⟩ := h
    rfl
  · obtain ⟨a, t1, t2, a1, b1, a2, b2, f1, p1, f2, p2, rfl, hl, P1, P2, T1, T2, k⟩ := h
    have hM := sumM_le T1 T2
    have hL := sumL_le T1 T2
    refine ⟨_, pss_cons (ps_asg (pe_tup (pa_cons pe_int (pa_cons pe_int pa_nil))) (pg_tup rfl (pgs_cons (pg_name (i := 1) scSummed.nd rfl (Or.inl rfl)) (pgs_cons (pg_name (i := 2) scSummed.nd rfl (Or.inl rfl)) pgs_nil))))
      (pss_cons (ps_for PassesOwn.never rfl (pi_list (pv 0)) (pg_tup rfl (pgs_cons (pg_name (i := 3) scSummed.nd rfl (Or.inl rfl)) (pgs_cons (pg_name (i := 4) scSummed.nd rfl (Or.inl rfl)) pgs_nil)))
        (pss_cons (ps_set (i := 1) scSummed.nd rfl (Or.inl rfl) (pe_callB (call_max2 rfl) (by rfl) N.max PyProof.Rows.boot_max (pa_cons (pv 1) (pa_cons (pe_callB call_len_seq (by rfl) N.len PySem.boot_len (pa_cons (pv 3) pa_nil)) pa_nil))))
        (pss_one (ps_set (i := 2) scSummed.nd rfl (Or.inl rfl) (pe_call FC.ok hr (by rfl) FC.g FC.kp FC.b .nil pass0 (pa_cons (pv 2) (pa_cons (pe_callB call_len_seq (by rfl) N.len PySem.boot_len (pa_cons (pv 4) pa_nil)) pa_nil)))))))
      (pss_cons (ps_set (i := 5) scSummed.nd rfl (Or.inl rfl) (pe_lst pa_nil))
      (pss_cons (ps_for PassesOwn.never rfl (pi_range1 (by rfl) N.range (pa_cons (pe_op op_add (pv 1) (pv 2)) pa_nil)) (pg_name (i := 6) scSummed.nd rfl (Or.inr rfl))
        (pss_one (ps_expr (pe_bm PySem.F.plainAttrs_list PySem.F.slot_list_append PySem.F.type_list_append mt_append (pv 5) (pa_cons
          (pe_callB (cr_sum rfl) (by rfl) N.sum PyProof.Rows.boot_sum (pa_cons
            (pe_lc (own := [("front", 3), ("period", 4)]) (g := gTup K 2 (gCons (gName 3) (gCons (gName 4) gNil))) (tt := tYes) rfl scSummed.nd (pi_list (pv 0)) (blkOk_by (N := ["tables", "longest", "many", "front", "period", "sums", "tick"]) (sc := defScope sSummed) (by decide +kernel))
              (fun _ _ _ _ _ => pg_tup rfl (pgs_cons (pg_name (i := 3) scSummed.nd rfl (Or.inl rfl)) (pgs_cons (pg_name (i := 4) scSummed.nd rfl (Or.inl rfl)) pgs_nil))) (fun _ _ _ _ _ => pts_nil)
              (fun _ _ _ _ _ => pe_call FN.ok hr (by rfl) FN.g FN.kp FN.b .nil pass0 (pa_cons (pv 3) (pa_cons (pv 4) (pa_cons (pv 6) pa_nil))))) pa_nil)) pa_nil)))))
      (pss_one (ps_ret (pe_tup (pa_cons (pe_slice sl_list (pv 5) po_none (po_some (pv 1))) (pa_cons (pe_slice sl_list (pv 5) (po_some (pv 1)) po_none) pa_nil)))))))), ?_⟩
    -- longest, many = (0, 1)
    refine ⟨(by show 2 ≤ sizeLine; decide), fun t0 ht0 => ⟨t0, _, rfl, SqT.of upd_same, rfl, _, _, rfl, _, _, rfl, rfl, ?_⟩⟩
    have s1 : Same H (upd H t0 (.tup [.int 0, .int 1])) := same_upd (Same.refl _) ht0
    have hl1 : ∀ {H' : Hp}, Same H H' → SqL K H' a [.ref t1, .ref t2] := fun z => z.seq hl
    -- for front, period in tables
    refine ⟨_, rfl, a, rfl, ⟨_, hl1 s1⟩, for_list (K := K) (a := a) (xs := [.ref t1, .ref t2]) (fun i σ H' => ∃ (u v : Option V), σ = [some (.ref a), some (.int (match i with | 0 => 0 | 1 => (f1.length : Nat) | _ => (sumL f1 f2 : Nat))), some (.int (match i with | 0 => 1 | 1 => (p1.length : Nat) | _ => (sumM p1 p2 : Nat))), u, v, none, none] ∧ Same H H')
      ⟨none, none, rfl, s1⟩ (fun i σ H' _ ⟨_, _, _, s2⟩ => hl1 s2) ?_ ?_⟩
    · rintro i x σ H' hi ⟨u, v, rfl, s2⟩
      match i, hi with
      | 0, hi =>
        cases (Option.some.inj hi)
        have Q1 := P1.same s2
        refine ⟨t1, _, rfl, Q1.1, rfl, _, _, rfl, _, _, rfl, rfl, ?_⟩
        refine ⟨_, rfl, _, rfl, a1, _, rfl, .inl Q1.2.1, _, _, rfl, ?_⟩
        refine ⟨_, rfl, _, rfl, b1, _, rfl, .inl Q1.2.2, 1, p1.length, by rw [List.length_map]; rfl, by decide, by decide, by have := T1.p; omega, ?_⟩
        refine ⟨some (.ref a1), some (.ref b1), ?_, s2⟩
        rw [cm_one, List.length_map]
        have : (if ((f1.length : Nat) : Int) > 0 then ((f1.length : Nat) : Int) else 0) = ((f1.length : Nat) : Int) := by split <;> omega
        simp only [this]
        rfl
      | 1, hi =>
        cases (Option.some.inj hi)
        have Q2 := P2.same s2
        refine ⟨t2, _, rfl, Q2.1, rfl, _, _, rfl, _, _, rfl, rfl, ?_⟩
        refine ⟨_, rfl, _, rfl, a2, _, rfl, .inl Q2.2.1, _, _, rfl, ?_⟩
        refine ⟨_, rfl, _, rfl, b2, _, rfl, .inl Q2.2.2, p1.length, p2.length, by rw [List.length_map]; rfl, T1.pos, by have := T1.p; omega, by have := T2.p; omega, ?_⟩
        refine ⟨some (.ref a2), some (.ref b2), ?_, s2⟩
        rw [List.length_map]
        have : (if ((f2.length : Nat) : Int) > ((f1.length : Nat) : Int) then ((f2.length : Nat) : Int) else ((f1.length : Nat) : Int)) = ((sumL f1 f2 : Nat) : Int) := by unfold sumL; split <;> omega
        simp only [this]
        rfl
      | i + 2, hi => exact absurd hi (by simp)
    · rintro σ H1 ⟨u, v, hσ, s2⟩
      have hσ' : σ = [some (.ref a), some (.int (sumL f1 f2 : Nat)), some (.int (sumM p1 p2 : Nat)), u, v, none, none] := hσ
      clear hσ
      subst hσ'
      -- sums = []
      refine ⟨by show 0 ≤ sizeLine; omega, fun z hz => ?_⟩
      have nz : H z = none := s2.free hz
      -- for tick in range(longest + many)
      refine ⟨_, rfl, _, rfl, _, _, rfl, rfl, _, rfl, ?_, ?_, ?_⟩
      · show -(2 ^ 62) ≤ ((sumL f1 f2 : Nat) : Int) + ((sumM p1 p2 : Nat) : Int)
        omega
      · show ((sumL f1 f2 : Nat) : Int) + ((sumM p1 p2 : Nat) : Int) < 2 ^ 62
        omega
      have en : (((sumL f1 f2 : Nat) : Int) + ((sumM p1 p2 : Nat) : Int)).toNat = sumL f1 f2 + sumM p1 p2 := by omega
      rw [en]
      have hz0 : Same H (upd H1 z (.lst [])) := same_upd s2 nz
      refine for_range (lo := 0) (n := sumL f1 f2 + sumM p1 p2) (fun i σ H' => ∃ t, σ = [some (.ref a), some (.int (sumL f1 f2 : Nat)), some (.int (sumM p1 p2 : Nat)), u, v, some (.ref z), t] ∧ Same H H' ∧ H' z = some (.lst (iV ((List.range i).map (sumAt f1 p1 f2 p2)))))
        ⟨none, rfl, hz0, upd_same⟩ ?_ ?_
      · rintro i σ H2 hi ⟨t, rfl, s3, hz2⟩
        have e0 : (0 : Int) + (i : Int) = (i : Int) := by omega
        rw [e0]
        refine ⟨_, rfl, .inl ⟨rfl, _, SqL.of hz2⟩, ?_⟩
        refine ⟨_, rfl, a, rfl, ⟨_, hl1 s3⟩, fun D hD => ?_⟩
        refine lcs_list hD (hl1 s3) [.int (numAt f1 p1 i), .int (numAt f2 p2 i)] rfl (by simp) (fun j x y H3 Q3 hx hy s4 q => ?_) (fun H3 s4 hl3 => ?_)
        · match j, hx, hy with
          | 0, hx, hy =>
            cases (Option.some.inj hx)
            cases (Option.some.inj hy)
            have Q1 := P1.same (s3.trans s4)
            exact ⟨t1, _, rfl, Q1.1, rfl, _, _, rfl, _, _, rfl, rfl, rfl, _, rfl, _, rfl, _, rfl, a1, b1, f1, p1, i, rfl, Q1.2.1, Q1.2.2, T1.n, q _ (Same.refl _)⟩
          | 1, hx, hy =>
            cases (Option.some.inj hx)
            cases (Option.some.inj hy)
            have Q2 := P2.same (s3.trans s4)
            exact ⟨t2, _, rfl, Q2.1, rfl, _, _, rfl, _, _, rfl, rfl, rfl, _, rfl, _, rfl, _, rfl, a2, b2, f2, p2, i, rfl, Q2.2.1, Q2.2.2, T2.n, q _ (Same.refl _)⟩
          | j + 2, hx, hy => exact absurd hx (by simp)
        · refine ⟨D, [numAt f1 p1 i, numAt f2 p2 i], rfl, SqL.of hl3, ?_⟩
          have e1 : [numAt f1 p1 i, numAt f2 p2 i].sum = sumAt f1 p1 f2 p2 i := by
            unfold sumAt
            simp
          rw [e1]
          refine ⟨z, _, _, rfl, rfl, s4 _ _ hz2, small1000 (by simp; omega), some (.int i), rfl, same_upd (s3.trans s4) nz, ?_⟩
          rw [upd_same, List.range_succ]
          simp
      · rintro σ H2 ⟨t, rfl, s3, hz2⟩
        have hz2 : H2 z = some (.lst (iV (sumAll f1 p1 f2 p2))) := hz2
        have hlen : (iV (sumAll f1 p1 f2 p2)).length = sumL f1 f2 + sumM p1 p2 := by rw [List.length_map, sumAll_len]
        refine ⟨_, rfl, _, rfl, _, rfl, z, _, rfl, SqL.of hz2, fun x hx => ?_⟩
        have nxz : z ≠ x := ne_of_none hz2 hx
        have hz3 : (upd H2 x (.lst (cutV (iV (sumAll f1 p1 f2 p2)) none (some (sumL f1 f2 : Nat))))) z = some (.lst (iV (sumAll f1 p1 f2 p2))) := by
          rw [upd_ne nxz]
          exact hz2
        refine ⟨_, rfl, _, rfl, _, rfl, z, _, rfl, SqL.of hz3, fun y hy => ?_⟩
        refine ⟨by show 2 ≤ sizeLine; decide, fun tp htp => ?_⟩
        have hx1 : (upd H2 x (.lst (cutV (iV (sumAll f1 p1 f2 p2)) none (some (sumL f1 f2 : Nat))))) x = some (.lst (cutV (iV (sumAll f1 p1 f2 p2)) none (some (sumL f1 f2 : Nat)))) := upd_same
        have nyx : x ≠ y := ne_of_none hx1 hy
        have ex : cutV (iV (sumAll f1 p1 f2 p2)) none (some (sumL f1 f2 : Nat)) = iV (sumF f1 p1 f2 p2) := by
          rw [cut_lo (by rw [hlen]; omega)]
          unfold sumF
          simp [iV]
        have ey : cutV (iV (sumAll f1 p1 f2 p2)) (some (sumL f1 f2 : Nat)) none = iV (sumP f1 p1 f2 p2) := by
          rw [cut_hi (by rw [hlen]; omega)]
          unfold sumP
          simp [iV]
        have nxx : H x = none := s3.free hx
        have nyy : H y = none := (same_upd s3 nxx).free hy
        have ntt : H tp = none := (same_upd (same_upd s3 nxx) nyy).free htp
        refine k _ tp x y (same_upd (same_upd (same_upd s3 nxx) nyy) ntt) upd_same ?_ ?_
        · rw [upd_ne (ne_of_none (show (upd (upd H2 x _) y _) x = some _ by rw [upd_ne nyx]; exact hx1) htp), upd_ne nyx, upd_same, ex]
        · rw [upd_ne (ne_of_none (show (upd (upd H2 x _) y _) y = some _ from upd_same) htp), upd_same, ey]
end
end R49
set_option maxHeartbeats 4000000
/-! Times: made, read, compared -/
namespace R49
open PySem PySem.Spec PyProof.Rows L2
/-- an own error class -/
structure ExC (K : PySem.W.Frag) (mg : Str → Option Value) (nm : Str) (C : Addr) : Prop where
  x : PySem.W.excIn K C [.type "ValueError", .type "Exception", .type "BaseException", .type "object"] "ValueError.__new__" = true
  g : mg nm = some (.ref C)
  kp : PySem.W.keepIn K (.ref C) = true
  b : PySem.W.subIn K (.ref C) (.type "BaseException") = some true
  t : PySem.W.typeIn K (.ref C) = some (.type "type")
  i : PySem.W.isClsIn K C = true
  s : PySem.W.subIn K (.ref C) (.ref C) = some true
/-- a may-raise def that doesn't raise here -/
theorem passN {X : Cx} : Passes (L2.CX X.prog X.w) X E0 := passes_call takes0 fun _ _ _ _ z => z
/-- the class Times as the top has made it -/
structure TmT (K : PySem.W.Frag) (mg : Str → Option Value) (C : Addr) : Prop where
  cl : Cls K C
  nF : NoAttr K C "front"
  nP : NoAttr K C "period"
  g : mg "Times" = some (.ref C)
  ic : PySem.W.findIn K (.ref C) "__class__" = some (some (.builtin "object.__class__"))
  ig : PySem.W.specialIn K (.builtin "object.__class__") "__get__" = some (some (.builtin "getset_descriptor.__get__"))
  ik : PySem.W.takesIn K (.builtin "object.__class__") = some true
  im : PySem.W.mroIn K C (.type "object") = some true
theorem putP (a : Addr) (b : Addr) : putF "period" (.ref b) (putF "front" (.ref a) []) = tmF a b := by
  show (if ("front" : Str) = "period" then _ else (("front" : Str), V.ref a) :: putF "period" (V.ref b) []) = _
  rw [if_neg (by decide +kernel)]
  rfl
section
variable {P : Program} {w : World} {K : PySem.W.Frag} {mg : Str → Option Value} {base : Heap} {C eT : Addr}
theorem TmT.ty (T : TmT K mg C) {H : Hp} {p dx : Addr} {fs : List (Str × V)} (h : H p = some (.ins C dx fs)) : TyX K H (.ref p) (.ref C) := .base (.ins h T.cl T.ic T.ig T.ik T.im)
theorem kit_own {C : Addr} : PySem.W.kitOne K (.ref C) (.ref C) = some true := by
  unfold PySem.W.kitOne
  rw [if_pos (by simp)]
/-! ### __init__ -/
def okB (fs ps : List Int) : Bool := numsB fs && numsB ps && !decide (ps.length = 0)
def spTmInit (C eT : Addr) : Sp := fun vs H Q E => ∃ (p dx a b : Addr) (fs ps : List Int), vs = [.ref p, .ref a, .ref b] ∧ H p = some (.ins C dx []) ∧ H a = some (.lst (iV fs)) ∧ H b = some (.lst (iV ps)) ∧ fs.length ≤ 1000 ∧ ps.length ≤ 1000 ∧
  (okB fs ps = true → ∀ H', TimesAt C H' p fs ps → (∀ b o, H b = some o → b ≠ p → H' b = some o) → Q .non H') ∧ (okB fs ps = false → ∀ H', Same H H' → E (.ref eT) none H')
theorem scTmInit : FnScope ["self", "front", "period"] ["self", "front", "period"] (defScope sTmInit) := ⟨rfl, rfl, rfl, by decide +kernel, rfl, by decide +kernel, by decide +kernel⟩
theorem ok_tmInit {f fN : Addr} {fd fdN : FuncData} (F : Fun K "__init__" "Times.__init__" sTmInit f fd) (N : NoG mg) (T : TmT K mg C) (EX : ExC K mg "BadTimes" eT)
    (FN : Cal P w K mg base CX0 2 "are_numbers" fN fdN ["thing"] spNums) : FnOk P w K mg base (L2.CX P w) 3 f fd ["self", "front", "period"] (spTmInit C eT) := by
  refine F.okX scTmInit (fun vs H Q E h => ?_) (fun cdv A outer s H vs Q E hr h => ?_)
  · obtain ⟨p, dx, a, b, fs, ps, rfl, _⟩ := h
    rfl
  · obtain ⟨p, dx, a, b, fs, ps, rfl, hp, ha, hb, hf, hq, kOk, kNo⟩ := h
    refine ⟨_, pss_cons (ps_if (PW.pt (pw_or (pt_not (pt_val (pe_call FN.ok hr (by rfl) FN.g FN.kp FN.b .nil pass0 (pa_cons (pv 1) pa_nil))))
          (pw_or (pt_not (pt_val (pe_call FN.ok hr (by rfl) FN.g FN.kp FN.b .nil pass0 (pa_cons (pv 2) pa_nil))))
          (pw_or1 (pt_cmpR op_eq (pe_callB call_len_seq (by rfl) N.len PySem.boot_len (pa_cons (pv 2) pa_nil)) pe_int (nomark _))))))
          (pss_one (ps_raise rfl (takes_of rfl rfl rfl rfl) (pmk_own PySem.F.excBase_ValueError EX.x EX.g EX.kp (raises_own EX.b EX.t) rfl))) pss_nil)
        (pss_cons (ps_fld (pv 0) (pe_callTy call_list_of (by rfl) N.list PyProof.Rows.boot_list (pa_cons (pv 1) pa_nil)) rfl)
        (pss_one (ps_fld (pv 0) (pe_callTy call_list_of (by rfl) N.list PyProof.Rows.boot_list (pa_cons (pv 2) pa_nil)) rfl))), ?_⟩
    refine ⟨_, rfl, a, fs, rfl, ha, hf, fun H1 s1 => ⟨_, rfl, ?_⟩⟩
    cases c1 : numsB fs with
    | false =>
      refine iteT ?_
      refine iteT ?_
      exact kNo (by unfold okB; rw [c1] <;> rfl) H1 s1
    | true =>
      refine iteF ?_
      refine ⟨_, rfl, b, ps, rfl, s1 _ _ hb, hq, fun H2 s2 => ⟨_, rfl, ?_⟩⟩
      have s12 := s1.trans s2
      cases c2 : numsB ps with
      | false =>
        refine iteT ?_
        refine iteT ?_
        exact kNo (by unfold okB; rw [c1, c2] <;> rfl) H2 s12
      | true =>
        refine iteF ?_
        refine ⟨_, rfl, b, _, rfl, .inl (.of (s12 _ _ hb)), rfl, _, rfl, ?_⟩
        rw [List.length_map]
        by_cases c3 : ps.length = 0
        · refine iteD (by rw [c3]; rfl) ?_
          exact kNo (by unfold okB; rw [c1, c2, decide_eq_true c3] <;> rfl) H2 s12
        · refine iteDN (int_ne (by omega)) ?_
          have hok : okB fs ps = true := by unfold okB; rw [c1, c2, decide_eq_false c3] <;> rfl
          refine ⟨_, rfl, a, _, rfl, .inl (.of (s12 _ _ ha)), fun l hl => ?_⟩
          have npl : p ≠ l := ne_of_none (s12 _ _ hp) hl
          refine ⟨_, rfl, p, C, dx, [], rfl, (by rw [upd_ne npl]; exact s12 _ _ hp), T.cl, T.nF, (by show 0 < 1000; decide), ?_⟩
          have nbl : b ≠ l := ne_of_none (s12 _ _ hb) hl
          have nbp : b ≠ p := ne_of hb hp (by intro z; cases z)
          refine ⟨_, rfl, b, _, rfl, .inl (.of (by rw [upd_ne nbp, upd_ne nbl]; exact s12 _ _ hb)), fun l2 hl2 => ?_⟩
          have hpp : ∀ o, upd (upd H2 l (.lst (iV fs))) p o p = some o := fun o => upd_same
          have npl2 : p ≠ l2 := ne_of_none (hpp _) hl2
          have nll2 : l ≠ l2 := ne_of_none (show upd (upd H2 l (.lst (iV fs))) p _ l = some _ by rw [upd_ne npl.symm, upd_same]) hl2
          refine ⟨_, rfl, p, C, dx, _, rfl, (by rw [upd_ne npl2]; exact upd_same), T.cl, T.nP, (by show 1 < 1000; decide), ?_⟩
          refine kOk hok _ ⟨dx, l, l2, ?_, ?_, ?_⟩ fun c o e hc => ?_
          · rw [upd_same, putP]
          · rw [upd_ne npl.symm, upd_ne nll2, upd_ne npl.symm, upd_same]
          · rw [upd_ne npl2.symm, upd_same]
          · have e2 := s12 _ _ e
            rw [upd_ne hc, upd_ne (ne_of_none (show upd (upd H2 l (.lst (iV fs))) p _ c = some o by rw [upd_ne hc, upd_ne (ne_of_none e2 hl)]; exact e2) hl2), upd_ne hc, upd_ne (ne_of_none e2 hl)]
            exact e2
end
end R49
set_option maxHeartbeats 4000000
/-! Times: read, compared, added, multiplied -/
namespace R49
open PySem PySem.Spec PyProof.Rows L2
/-! ### data -/
def dI (xs : List Int) : PyData := .list (xs.map PyData.int)
theorem dpAll_iV {K : PySem.W.Frag} {H : Hp} : ∀ xs : List Int, DpAll K H (iV xs) (xs.map PyData.int)
  | [] => .nil
  | x :: xs => .cons (.int x) (dpAll_iV xs)
theorem dp_iV {K : PySem.W.Frag} {H : Hp} {a : Addr} {xs : List Int} (h : SqL K H a (iV xs)) : Dp K H (.ref a) (dI xs) := .lst h (dpAll_iV xs)
theorem lay_ints : ∀ xs : List Int, PyData.canLayAll0 (xs.map PyData.int) = true
  | [] => rfl
  | x :: xs => by
    show (PyData.canLay0 (.int x) && PyData.canLayAll0 (xs.map PyData.int)) = true
    rw [lay_ints xs]
    rfl
theorem deep_ints : ∀ xs : List Int, PyData.depthAll (xs.map PyData.int) = 0
  | [] => rfl
  | x :: xs => by
    show max (PyData.depth (.int x)) (PyData.depthAll (xs.map PyData.int)) = 0
    rw [deep_ints xs]
    rfl
theorem lay_dI (xs : List Int) : PyData.canLay0 (dI xs) = true := lay_ints xs
theorem deep_dI (xs : List Int) : PyData.depth (dI xs) = 1 := by
  show PyData.depthAll (xs.map PyData.int) + 1 = 1
  rw [deep_ints]
theorem sh_dI (xs : List Int) : SeqAt.shaped (dI xs) = true := by
  unfold SeqAt.shaped
  rw [lay_dI, deep_dI]
  rfl
theorem lay_two {d e : PyData} (h1 : PyData.canLay0 d = true) (h2 : PyData.canLay0 e = true) : PyData.canLay0 (.tuple [d, e]) = true := by
  show (PyData.canLay0 d && (PyData.canLay0 e && true)) = true
  rw [h1, h2]
  rfl
theorem sh_two (xs ys : List Int) : SeqAt.shaped (.tuple [dI xs, dI ys]) = true := by
  unfold SeqAt.shaped
  rw [lay_two (lay_dI xs) (lay_dI ys)]
  show (true && decide (max (PyData.depth (dI xs)) (max (PyData.depth (dI ys)) 0) + 1 ≤ 64)) = true
  rw [deep_dI, deep_dI]
  rfl
def eqT (f1 p1 f2 p2 : List Int) : Bool := PyData.eqv (.tuple [dI f1, dI p1]) (.tuple [dI f2, dI p2])
section
variable {P : Program} {w : World} {K : PySem.W.Frag} {mg : Str → Option Value} {base : Heap} {C eT : Addr}
/-! ### at, __getitem__ -/
def spTmAt (C : Addr) : Sp := fun vs H Q _ => ∃ (p : Addr) (t : Nat) (fs ps : List Int), vs = [.ref p, .int t] ∧ TimesAt C H p fs ps ∧ ps ≠ [] ∧ Q (.int (numAt fs ps t)) H
theorem scTmAt : FnScope ["self", "tick"] ["self", "tick"] (defScope sTmAt) := ⟨rfl, rfl, rfl, by decide +kernel, rfl, by decide +kernel, by decide +kernel⟩
theorem ok_tmAt {f fN : Addr} {fd fdN : FuncData} (F : Fun K "at" "Times.at" sTmAt f fd) (T : TmT K mg C) (FN : Cal P w K mg base CX0 1 "number_at" fN fdN ["front", "period", "tick"] (spNum K)) : FnOk P w K mg base CX0 2 f fd ["self", "tick"] (spTmAt C) := by
  refine F.ok scTmAt (fun vs H Q E h => ?_) (fun cdv A outer s H vs Q E hr h => ?_)
  · obtain ⟨p, t, fs, ps, rfl, _⟩ := h
    rfl
  · obtain ⟨p, t, fs, ps, rfl, ⟨dx, a, b, hp, ha, hb⟩, hne, k⟩ := h
    refine ⟨_, pss_one (ps_ret (pe_call FN.ok hr (by rfl) FN.g FN.kp FN.b .nil pass0 (pa_cons (pe_fld (pv 0) rfl) (pa_cons (pe_fld (pv 0) rfl) (pa_cons (pv 1) pa_nil))))), ?_⟩
    exact ⟨_, rfl, p, C, dx, _, _, rfl, hp, T.cl, T.nF, tmF_front _ _, _, rfl, p, C, dx, _, _, rfl, hp, T.cl, T.nP, tmF_period _ _, _, rfl, a, b, fs, ps, t, rfl, .of ha, .of hb, hne, k⟩
theorem scTmGet : FnScope ["self", "tick"] ["self", "tick"] (defScope sTmGet) := ⟨rfl, rfl, rfl, by decide +kernel, rfl, by decide +kernel, by decide +kernel⟩
theorem ok_tmGet {f fN : Addr} {fd fdN : FuncData} (F : Fun K "__getitem__" "Times.__getitem__" sTmGet f fd) (T : TmT K mg C) (FN : Cal P w K mg base CX0 1 "number_at" fN fdN ["front", "period", "tick"] (spNum K)) : FnOk P w K mg base CX0 2 f fd ["self", "tick"] (spTmAt C) := by
  refine F.ok scTmGet (fun vs H Q E h => ?_) (fun cdv A outer s H vs Q E hr h => ?_)
  · obtain ⟨p, t, fs, ps, rfl, _⟩ := h
    rfl
  · obtain ⟨p, t, fs, ps, rfl, ⟨dx, a, b, hp, ha, hb⟩, hne, k⟩ := h
    refine ⟨_, pss_one (ps_ret (pe_call FN.ok hr (by rfl) FN.g FN.kp FN.b .nil pass0 (pa_cons (pe_fld (pv 0) rfl) (pa_cons (pe_fld (pv 0) rfl) (pa_cons (pv 1) pa_nil))))), ?_⟩
    exact ⟨_, rfl, p, C, dx, _, _, rfl, hp, T.cl, T.nF, tmF_front _ _, _, rfl, p, C, dx, _, _, rfl, hp, T.cl, T.nP, tmF_period _ _, _, rfl, a, b, fs, ps, t, rfl, .of ha, .of hb, hne, k⟩
/-! ### __eq__ -/
def spTmEq (C : Addr) : Sp := fun vs H Q _ => ∃ (p q : Addr) (f1 p1 f2 p2 : List Int), vs = [.ref p, .ref q] ∧ TimesAt C H p f1 p1 ∧ TimesAt C H q f2 p2 ∧ ∀ H', Same H H' → Q (.bl (eqT f1 p1 f2 p2)) H'
theorem scTmEq : FnScope ["self", "other"] ["self", "other"] (defScope sTmEq) := ⟨rfl, rfl, rfl, by decide +kernel, rfl, by decide +kernel, by decide +kernel⟩
theorem ok_tmEq {f : Addr} {fd : FuncData} (F : Fun K "__eq__" "Times.__eq__" sTmEq f fd) (T : TmT K mg C) (N : NoG mg) : FnOk P w K mg base CX0 1 f fd ["self", "other"] (spTmEq C) := by
  refine F.ok scTmEq (fun vs H Q E h => ?_) (fun cdv A outer s H vs Q E hr h => ?_)
  · obtain ⟨p, q, f1, p1, f2, p2, rfl, _⟩ := h
    rfl
  · obtain ⟨p, q, f1, p1, f2, p2, rfl, ⟨dx, a, b, hp, ha, hb⟩, ⟨dy, a', b', hq, ha', hb'⟩, k⟩ := h
    refine ⟨_, pss_one (ps_ret (pe_and (pe_callB call_isi (by rfl) N.isinstance PyProof.Rows.boot_isinstance (pa_cons (pv 1) (pa_cons (pe_glob (v := .ref C) (by rfl) T.g rfl) pa_nil)))
      (pe_one (pe_cmpR (op_eqD hr.units) (pe_tup (pa_cons (pe_fld (pv 0) rfl) (pa_cons (pe_fld (pv 0) rfl) pa_nil))) (pe_tup (pa_cons (pe_fld (pv 1) rfl) (pa_cons (pe_fld (pv 1) rfl) pa_nil))) (nomark _))))), ?_⟩
    refine ⟨_, rfl, .ref q, .ref C, .ref C, _, true, rfl, .own C, T.ty hq, kit_own, true, rfl, ?_⟩
    refine iteT ?_
    refine ⟨_, rfl, p, C, dx, _, _, rfl, hp, T.cl, T.nF, tmF_front _ _, _, rfl, p, C, dx, _, _, rfl, hp, T.cl, T.nP, tmF_period _ _, (by show 2 ≤ sizeLine; decide), fun t1 ht1 => ?_⟩
    have s1 : Same H (upd H t1 (.tup [.ref a, .ref b])) := same_upd (Same.refl _) ht1
    refine ⟨_, rfl, q, C, dy, _, _, rfl, s1 _ _ hq, T.cl, T.nF, tmF_front _ _, _, rfl, q, C, dy, _, _, rfl, s1 _ _ hq, T.cl, T.nP, tmF_period _ _, (by show 2 ≤ sizeLine; decide), fun t2 ht2 => ?_⟩
    have s2 : Same H (upd (upd H t1 (.tup [.ref a, .ref b])) t2 (.tup [.ref a', .ref b'])) := same_upd s1 (s1.free ht2)
    have nt : t1 ≠ t2 := ne_of_none (show upd H t1 (.tup [.ref a, .ref b]) t1 = some _ from upd_same) ht2
    refine ⟨.tuple [dI f1, dI p1], .tuple [dI f2, dI p2], .tup (SqT.of (by rw [upd_ne nt, upd_same])) (.cons (dp_iV (.of (s2 _ _ ha))) (.cons (dp_iV (.of (s2 _ _ hb))) .nil)),
      .tup (SqT.of upd_same) (.cons (dp_iV (.of (s2 _ _ ha'))) (.cons (dp_iV (.of (s2 _ _ hb'))) .nil)), sh_two _ _, sh_two _ _, k _ s2⟩
/-! ### __add__ -/
def spTmAdd (C eT : Addr) : Sp := fun vs H Q E => ∃ (p q : Addr) (f1 p1 f2 p2 : List Int), vs = [.ref p, .ref q] ∧ TimesAt C H p f1 p1 ∧ TimesAt C H q f2 p2 ∧ Tb f1 p1 ∧ Tb f2 p2 ∧
  (okB (sumF f1 p1 f2 p2) (sumP f1 p1 f2 p2) = true → ∀ H' x, Same H H' → H x = none → TimesAt C H' x (sumF f1 p1 f2 p2) (sumP f1 p1 f2 p2) → Q (.ref x) H') ∧
  (okB (sumF f1 p1 f2 p2) (sumP f1 p1 f2 p2) = false → ∀ H', Same H H' → E (.ref eT) none H')
theorem scTmAdd : FnScope ["self", "other", "front", "period"] ["self", "other"] (defScope sTmAdd) := ⟨rfl, rfl, rfl, by decide +kernel, rfl, by decide +kernel, by decide +kernel⟩
theorem sumF_le {f1 p1 f2 p2 : List Int} (h1 : Tb f1 p1) (h2 : Tb f2 p2) : (sumF f1 p1 f2 p2).length ≤ 1000 := by
  have := sumAll_len f1 p1 f2 p2
  have := sumM_le h1 h2
  have := sumL_le h1 h2
  unfold sumF
  rw [List.length_take]
  omega
theorem sumP_le {f1 p1 f2 p2 : List Int} (h1 : Tb f1 p1) (h2 : Tb f2 p2) : (sumP f1 p1 f2 p2).length ≤ 1000 := by
  have := sumAll_len f1 p1 f2 p2
  have := sumM_le h1 h2
  have := sumL_le h1 h2
  unfold sumP
  rw [List.length_drop]
  omega
theorem ok_tmAdd {f fS fI : Addr} {fd fdS fdI : FuncData} (F : Fun K "__add__" "Times.__add__" sTmAdd f fd) (T : TmT K mg C) (M : Mk K C fI) (FI : FnOk P w K mg base (L2.CX P w) 3 fI fdI ["self", "front", "period"] (spTmInit C eT)) (bI : Binds K fdI ["self", "front", "period"] [])
    (FS : Cal P w K mg base CX0 2 "summed" fS fdS ["tables"] (spSummed K)) : FnOk P w K mg base (L2.CX P w) 5 f fd ["self", "other"] (spTmAdd C eT) := by
  refine F.okX scTmAdd (fun vs H Q E h => ?_) (fun cdv A outer s H vs Q E hr h => ?_)
  · obtain ⟨p, q, f1, p1, f2, p2, rfl, _⟩ := h
    rfl
  · obtain ⟨p, q, f1, p1, f2, p2, rfl, ⟨dx, a, b, hp, ha, hb⟩, ⟨dy, a', b', hq, ha', hb'⟩, T1, T2, kOk, kNo⟩ := h
    refine ⟨_, pss_cons (ps_asg (pe_call FS.ok (hr.mono (by decide)) (by rfl) FS.g FS.kp FS.b .nil pass0 (pa_cons (pe_lst (pa_cons (pe_tup (pa_cons (pe_fld (pv 0) rfl) (pa_cons (pe_fld (pv 0) rfl) pa_nil))) (pa_cons (pe_tup (pa_cons (pe_fld (pv 1) rfl) (pa_cons (pe_fld (pv 1) rfl) pa_nil))) pa_nil))) pa_nil))
        (pg_tup rfl (pgs_cons (pg_name (i := 2) scTmAdd.nd rfl (Or.inl rfl)) (pgs_cons (pg_name (i := 3) scTmAdd.nd rfl (Or.inl rfl)) pgs_nil))))
      (pss_one (ps_ret (pe_make M FI hr (by rfl) T.g bI .nil (passes_call (takes_of rfl rfl rfl rfl) fun _ _ _ _ z => z) (pa_cons (pv 2) (pa_cons (pv 3) pa_nil))))), ?_⟩
    refine ⟨_, rfl, p, C, dx, _, _, rfl, hp, T.cl, T.nF, tmF_front _ _, _, rfl, p, C, dx, _, _, rfl, hp, T.cl, T.nP, tmF_period _ _, (by show 2 ≤ sizeLine; decide), fun t1 ht1 => ?_⟩
    have s1 : Same H (upd H t1 (.tup [.ref a, .ref b])) := same_upd (Same.refl _) ht1
    refine ⟨_, rfl, q, C, dy, _, _, rfl, s1 _ _ hq, T.cl, T.nF, tmF_front _ _, _, rfl, q, C, dy, _, _, rfl, s1 _ _ hq, T.cl, T.nP, tmF_period _ _, (by show 2 ≤ sizeLine; decide), fun t2 ht2 => ?_⟩
    have s2 : Same H (upd (upd H t1 (.tup [.ref a, .ref b])) t2 (.tup [.ref a', .ref b'])) := same_upd s1 (s1.free ht2)
    have nt : t1 ≠ t2 := ne_of_none (show upd H t1 (.tup [.ref a, .ref b]) t1 = some _ from upd_same) ht2
    refine ⟨(by show 2 ≤ sizeLine; decide), fun l hl => ?_⟩
    have s3 : Same H (upd (upd (upd H t1 (.tup [.ref a, .ref b])) t2 (.tup [.ref a', .ref b'])) l (.lst [.ref t1, .ref t2])) := same_upd s2 (s2.free hl)
    have h1 : (upd (upd H t1 (.tup [.ref a, .ref b])) t2 (.tup [.ref a', .ref b'])) t1 = some (.tup [.ref a, .ref b]) := by rw [upd_ne nt, upd_same]
    have h2 : (upd (upd H t1 (.tup [.ref a, .ref b])) t2 (.tup [.ref a', .ref b'])) t2 = some (.tup [.ref a', .ref b']) := upd_same
    refine ⟨l, t1, t2, a, b, a', b', f1, p1, f2, p2, rfl, .of upd_same, ⟨.of (by rw [upd_ne (ne_of_none h1 hl)]; exact h1), .of (s3 _ _ ha), .of (s3 _ _ hb)⟩, ⟨.of (by rw [upd_ne (ne_of_none h2 hl)]; exact h2), .of (s3 _ _ ha'), .of (s3 _ _ hb')⟩, T1, T2, fun H4 t x y s4 ht hx hy => ?_⟩
    refine ⟨t, _, rfl, .of ht, rfl, _, _, rfl, _, _, rfl, rfl, ?_⟩
    refine ⟨_, rfl, _, rfl, fun z dz nz ndz nez => ?_⟩
    have s5 : Same H4 (upd (upd H4 dz (.own z)) z (.ins C dz [])) := same_upd (same_upd (Same.refl _) ndz) nz
    have s35 := s3.trans s4
    refine ⟨z, dz, x, y, _, _, rfl, upd_same, s5 _ _ hx, s5 _ _ hy, sumF_le T1 T2, sumP_le T1 T2, fun ok H6 tm kp => ⟨rfl, ?_⟩, fun no H6 s6 => kNo no H6 (s35.trans (s5.trans s6))⟩
    exact kOk ok H6 z (fun c o e => kp c o (s5 _ _ (s35 _ _ e)) (ne_of_none (s35 _ _ e) nz)) (s35.free nz) tm
/-! ### __mul__ -/
def scaled (m : Int) (xs : List Int) : List Int := xs.map (· * m)
def spTmMul (C eT : Addr) : Sp := fun vs H Q E => ∃ (p : Addr) (m : Int) (fs ps : List Int), vs = [.ref p, .int m] ∧ TimesAt C H p fs ps ∧ Tb fs ps ∧ 0 ≤ m ∧ m ≤ 1000 ∧
  (okB (scaled m fs) (scaled m ps) = true → ∀ H' x, Same H H' → H x = none → TimesAt C H' x (scaled m fs) (scaled m ps) → Q (.ref x) H') ∧
  (okB (scaled m fs) (scaled m ps) = false → ∀ H', Same H H' → E (.ref eT) none H')
theorem scTmMul : FnScope ["self", "other", "number"] ["self", "other"] (defScope sTmMul) := ⟨rfl, rfl, rfl, by decide +kernel, rfl, by decide +kernel, by decide +kernel⟩
theorem ok_tmMul {f fI : Addr} {fd fdI : FuncData} (F : Fun K "__mul__" "Times.__mul__" sTmMul f fd) (T : TmT K mg C) (M : Mk K C fI) (FI : FnOk P w K mg base (L2.CX P w) 3 fI fdI ["self", "front", "period"] (spTmInit C eT)) (bI : Binds K fdI ["self", "front", "period"] []) :
    FnOk P w K mg base (L2.CX P w) 5 f fd ["self", "other"] (spTmMul C eT) := by
  refine F.okX scTmMul (fun vs H Q E h => ?_) (fun cdv A outer s H vs Q E hr h => ?_)
  · obtain ⟨p, m, fs, ps, rfl, _⟩ := h
    rfl
  · obtain ⟨p, m, fs, ps, rfl, ⟨dx, a, b, hp, ha, hb⟩, T1, m0, m1, kOk, kNo⟩ := h
    have hf := T1.f
    have hq := T1.p
    refine ⟨_, pss_one (ps_ret (pe_make M FI hr (by rfl) T.g bI .nil (passes_call (takes_of rfl rfl rfl rfl) fun _ _ _ _ z => z) (pa_cons
        (pe_lc (own := [("number", 2)]) (g := gName 2) (tt := tYes) rfl scTmMul.nd (pi_list (pe_fld (pv 0) rfl)) (blkOk_by (N := ["self", "other", "number"]) (sc := defScope sTmMul) (by decide +kernel)) (fun _ _ _ _ _ => pg_name (i := 2) scTmMul.nd rfl (Or.inl rfl)) (fun _ _ _ _ _ => pts_nil) (fun _ _ _ _ _ => pe_op op_mul (pv 2) (pv 1)))
        (pa_cons (pe_lc (own := [("number", 2)]) (g := gName 2) (tt := tYes) rfl scTmMul.nd (pi_list (pe_fld (pv 0) rfl)) (blkOk_by (N := ["self", "other", "number"]) (sc := defScope sTmMul) (by decide +kernel)) (fun _ _ _ _ _ => pg_name (i := 2) scTmMul.nd rfl (Or.inl rfl)) (fun _ _ _ _ _ => pts_nil) (fun _ _ _ _ _ => pe_op op_mul (pv 2) (pv 1))) pa_nil)))), ?_⟩
    refine ⟨_, rfl, p, C, dx, _, _, rfl, hp, T.cl, T.nF, tmF_front _ _, a, rfl, ⟨_, .of ha⟩, fun D1 hD1 => ?_⟩
    refine lcs_list hD1 (.of ha) (iV (scaled m fs)) (by simp [scaled]) (by simp; omega) (fun i x y H2 Q2 hx hy s2 q => ?_) (fun H2 s2 hl2 => ?_)
    · obtain ⟨z, hz1, rfl⟩ := iV_get hx
      simp [scaled, hz1] at hy
      subst hy
      exact ⟨rfl, _, rfl, _, rfl, _, _, rfl, rfl, .inr ⟨by omega, by omega⟩, q _ (Same.refl _)⟩
    refine ⟨_, rfl, p, C, dx, _, _, rfl, s2 _ _ hp, T.cl, T.nP, tmF_period _ _, b, rfl, ⟨_, .of (s2 _ _ hb)⟩, fun D2 hD2 => ?_⟩
    refine lcs_list hD2 (.of (s2 _ _ hb)) (iV (scaled m ps)) (by simp [scaled]) (by simp; omega) (fun i x y H3 Q3 hx hy s3 q => ?_) (fun H3 s3 hl3 => ?_)
    · obtain ⟨z, hz1, rfl⟩ := iV_get hx
      simp [scaled, hz1] at hy
      subst hy
      exact ⟨rfl, _, rfl, _, rfl, _, _, rfl, rfl, .inr ⟨by omega, by omega⟩, q _ (Same.refl _)⟩
    intro z dz nz ndz nez
    have s23 := s2.trans s3
    have s5 : Same H3 (upd (upd H3 dz (.own z)) z (.ins C dz [])) := same_upd (same_upd (Same.refl _) ndz) nz
    refine ⟨z, dz, D1, D2, _, _, rfl, upd_same, s5 _ _ (s3 _ _ hl2), s5 _ _ hl3, by simp [scaled]; omega, by simp [scaled]; omega, fun ok H6 tm kp => ⟨rfl, ?_⟩, fun no H6 s6 => kNo no H6 (s23.trans (s5.trans s6))⟩
    exact kOk ok H6 z (fun c o e => kp c o (s5 _ _ (s23 _ _ e)) (ne_of_none (s23 _ _ e) nz)) (s23.free nz) tm
end
end R49
set_option maxHeartbeats 4000000
/-! check_times, joint, Lag, Growing, lags, growth_of, greatest_lag -/
namespace R49
open PySem PySem.Spec PyProof.Rows L2
/-! ### plain words -/
def mx0 (j : Int) : Int := if j > 0 then j else 0
/-- the lag behind n ticks -/
def lgN (f1 p1 f2 p2 : List Int) : Nat → Int
  | 0 => 0
  | n + 1 => mx0 (lgN f1 p1 f2 p2 n + numAt f1 p1 n - numAt f2 p2 n)
def lagL (f1 p1 f2 p2 : List Int) (n : Nat) : List Int := (List.range n).map fun t => lgN f1 p1 f2 p2 (t + 1)
def growth (p1 p2 : List Int) : Int := (sumM p1 p2 : Int) / (p1.length : Int) * p1.sum - (sumM p1 p2 : Int) / (p2.length : Int) * p2.sum
def lagF (n t : Int) : List (Str × V) := [("number", .int n), ("tick", .int t)]
def groF (g m : Int) : List (Str × V) := [("growth", .int g), ("period", .int m)]
theorem putLag (n t : Int) : putF "tick" (.int t) (putF "number" (.int n) []) = lagF n t := by
  show (if ("number" : Str) = "tick" then _ else (("number" : Str), V.int n) :: putF "tick" (V.int t) []) = _
  rw [if_neg (by decide +kernel)]
  rfl
theorem putGro (n t : Int) : putF "period" (.int t) (putF "growth" (.int n) []) = groF n t := by
  show (if ("growth" : Str) = "period" then _ else (("growth" : Str), V.int n) :: putF "period" (V.int t) []) = _
  rw [if_neg (by decide +kernel)]
  rfl
/-- x stands first at place j, and is the greatest -/
structure Top (xs : List Int) (m : Int) (j : Nat) : Prop where
  at_ : xs[j]? = some m
  le : ∀ y ∈ xs, y ≤ m
  fst : ∀ (k : Nat) (z : Int), k < j → xs[k]? = some z → z ≠ m
theorem exists_first {xs : List Int} {m : Int} (h : m ∈ xs) : ∃ j : Nat, xs[j]? = some m ∧ ∀ (k : Nat) (z : Int), k < j → xs[k]? = some z → z ≠ m := by
  induction xs with
  | nil => cases h
  | cons x xs ih =>
    by_cases e : x = m
    · exact ⟨0, by rw [e]; rfl, fun k z hk => absurd hk (Nat.not_lt_zero _)⟩
    · rcases List.mem_cons.mp h with e2 | h2
      · exact absurd e2.symm e
      · obtain ⟨j, h3, h4⟩ := ih h2
        refine ⟨j + 1, by simpa using h3, fun k z hk hz => ?_⟩
        cases k with
        | zero =>
          have : x = z := by simpa using hz
          rw [← this]
          exact e
        | succ k => exact h4 k z (by omega) (by simpa using hz)
section
variable {P : Program} {w : World} {K : PySem.W.Frag} {mg : Str → Option Value} {base : Heap} {C eT cL cG : Addr}
/-! ### check_times -/
def spChkTm (C : Addr) : Sp := fun vs H Q _ => ∃ (p dx : Addr) (fs : List (Str × V)), vs = [.ref p] ∧ H p = some (.ins C dx fs) ∧ Q .non H
theorem scChkTm : FnScope ["thing"] ["thing"] (defScope sChkTm) := ⟨rfl, rfl, rfl, by decide +kernel, rfl, by decide +kernel, by decide +kernel⟩
theorem ok_chkTm {f : Addr} {fd : FuncData} (F : Fun K "check_times" "check_times" sChkTm f fd) (T : TmT K mg C) (EX : ExC K mg "BadTimes" eT) (N : NoG mg) : FnOk P w K mg base CX0 1 f fd ["thing"] (spChkTm C) := by
  refine F.ok scChkTm (fun vs H Q E h => ?_) (fun cdv A outer s H vs Q E hr h => ?_)
  · obtain ⟨p, dx, fs, rfl, _⟩ := h
    rfl
  · obtain ⟨p, dx, fs, rfl, hp, k⟩ := h
    refine ⟨_, pss_one (ps_if (pt_not (pt_val (pe_callB call_isi (by rfl) N.isinstance PyProof.Rows.boot_isinstance (pa_cons (pv 0) (pa_cons (pe_glob (v := .ref C) (by rfl) T.g rfl) pa_nil)))))
      (pss_one (ps_raise rfl takes0 (pmk_own PySem.F.excBase_ValueError EX.x EX.g EX.kp (raises_own EX.b EX.t) rfl))) pss_nil), ?_⟩
    refine ⟨_, rfl, .ref p, .ref C, .ref C, _, true, rfl, .own C, T.ty hp, kit_own, true, rfl, ?_⟩
    exact iteF k
/-! ### joint -/
def spJoint (K : PySem.W.Frag) (C : Addr) : Sp := fun vs H Q _ => ∃ (a p q : Addr) (f1 p1 f2 p2 : List Int), vs = [.ref a] ∧ SqL K H a [.ref p, .ref q] ∧ TimesAt C H p f1 p1 ∧ TimesAt C H q f2 p2 ∧ Tb f1 p1 ∧ Tb f2 p2 ∧
  ∀ (H' : Hp) (t : Addr), Same H H' → H' t = some (.tup [.int (sumL f1 f2 : Nat), .int (sumM p1 p2 : Nat)]) → Q (.ref t) H'
theorem scJoint : FnScope ["tables", "front", "period", "times"] ["tables"] (defScope sJoint) := ⟨rfl, rfl, rfl, by decide +kernel, rfl, by decide +kernel, by decide +kernel⟩
theorem TimesAt.sm {H H' : Hp} {p : Addr} {fs ps : List Int} (h : TimesAt C H p fs ps) (s : Same H H') : TimesAt C H' p fs ps := h.same fun b o e _ => s b o e
theorem ok_joint {f fC : Addr} {fd fdC : FuncData} (F : Fun K "joint" "joint" sJoint f fd) (N : NoG mg) (T : TmT K mg C) (FC : Cal P w K mg base CX0 1 "common" fC fdC ["one", "two"] spCommon) : FnOk P w K mg base CX0 2 f fd ["tables"] (spJoint K C) := by
  refine F.ok scJoint (fun vs H Q E h => ?_) (fun cdv A outer s H vs Q E hr h => ?_)
  · obtain ⟨a, p, q, f1, p1, f2, p2, rfl, _⟩ := h
    rfl
  · obtain ⟨a, p, q, f1, p1, f2, p2, rfl, hl, hp, hq, T1, T2, k⟩ := h
    refine ⟨_, pss_cons (ps_asg (pe_tup (pa_cons pe_int (pa_cons pe_int pa_nil))) (pg_tup rfl (pgs_cons (pg_name (i := 1) scJoint.nd rfl (Or.inl rfl)) (pgs_cons (pg_name (i := 2) scJoint.nd rfl (Or.inl rfl)) pgs_nil))))
      (pss_cons (ps_for PassesOwn.never rfl (pi_list (pv 0)) (pg_name (i := 3) scJoint.nd rfl (Or.inl rfl))
        (pss_cons (ps_set (i := 1) scJoint.nd rfl (Or.inl rfl) (pe_callB (call_max2 rfl) (by rfl) N.max PyProof.Rows.boot_max (pa_cons (pv 1) (pa_cons (pe_callB call_len_seq (by rfl) N.len PySem.boot_len (pa_cons (pe_fld (pv 3) rfl) pa_nil)) pa_nil))))
        (pss_one (ps_set (i := 2) scJoint.nd rfl (Or.inl rfl) (pe_call FC.ok hr (by rfl) FC.g FC.kp FC.b .nil pass0 (pa_cons (pv 2) (pa_cons (pe_callB call_len_seq (by rfl) N.len PySem.boot_len (pa_cons (pe_fld (pv 3) rfl) pa_nil)) pa_nil)))))))
      (pss_one (ps_ret (pe_tup (pa_cons (pv 1) (pa_cons (pv 2) pa_nil)))))), ?_⟩
    refine ⟨(by show 2 ≤ sizeLine; decide), fun t0 ht0 => ⟨t0, _, rfl, SqT.of upd_same, rfl, _, _, rfl, _, _, rfl, rfl, ?_⟩⟩
    have s1 : Same H (upd H t0 (.tup [.int 0, .int 1])) := same_upd (Same.refl _) ht0
    have hl1 : ∀ {H' : Hp}, Same H H' → SqL K H' a [.ref p, .ref q] := fun z => z.seq hl
    refine ⟨_, rfl, a, rfl, ⟨_, hl1 s1⟩, for_list (K := K) (a := a) (xs := [.ref p, .ref q]) (fun i σ H' => ∃ (u : Option V), σ = [some (.ref a), some (.int (match i with | 0 => 0 | 1 => (f1.length : Nat) | _ => (sumL f1 f2 : Nat))), some (.int (match i with | 0 => 1 | 1 => (p1.length : Nat) | _ => (sumM p1 p2 : Nat))), u] ∧ Same H H')
      ⟨none, rfl, s1⟩ (fun i σ H' _ ⟨_, _, s2⟩ => hl1 s2) ?_ ?_⟩
    · rintro i x σ H' hi ⟨u, rfl, s2⟩
      match i, hi with
      | 0, hi =>
        cases (Option.some.inj hi)
        obtain ⟨dx, a1, b1, e1, e2, e3⟩ := hp.sm s2
        refine ⟨_, rfl, _, rfl, p, C, dx, _, _, rfl, e1, T.cl, T.nF, tmF_front _ _, a1, _, rfl, .inl (.of e2), _, _, rfl, ?_⟩
        refine ⟨_, rfl, _, rfl, p, C, dx, _, _, rfl, e1, T.cl, T.nP, tmF_period _ _, b1, _, rfl, .inl (.of e3), 1, p1.length, by rw [List.length_map]; rfl, by decide, by decide, by have := T1.p; omega, ?_⟩
        refine ⟨some (.ref p), ?_, s2⟩
        rw [cm_one, List.length_map]
        have : (if ((f1.length : Nat) : Int) > 0 then ((f1.length : Nat) : Int) else 0) = ((f1.length : Nat) : Int) := by split <;> omega
        simp only [this]
        rfl
      | 1, hi =>
        cases (Option.some.inj hi)
        obtain ⟨dx, a1, b1, e1, e2, e3⟩ := hq.sm s2
        refine ⟨_, rfl, _, rfl, q, C, dx, _, _, rfl, e1, T.cl, T.nF, tmF_front _ _, a1, _, rfl, .inl (.of e2), _, _, rfl, ?_⟩
        refine ⟨_, rfl, _, rfl, q, C, dx, _, _, rfl, e1, T.cl, T.nP, tmF_period _ _, b1, _, rfl, .inl (.of e3), p1.length, p2.length, by rw [List.length_map]; rfl, T1.pos, by have := T1.p; omega, by have := T2.p; omega, ?_⟩
        refine ⟨some (.ref q), ?_, s2⟩
        rw [List.length_map]
        have : (if ((f2.length : Nat) : Int) > ((f1.length : Nat) : Int) then ((f2.length : Nat) : Int) else ((f1.length : Nat) : Int)) = ((sumL f1 f2 : Nat) : Int) := by unfold sumL; split <;> omega
        simp only [this]
        rfl
      | i + 2, hi => exact absurd hi (by simp)
    · rintro σ H1 ⟨u, hσ, s2⟩
      have hσ' : σ = [some (.ref a), some (.int (sumL f1 f2 : Nat)), some (.int (sumM p1 p2 : Nat)), u] := hσ
      clear hσ
      subst hσ'
      exact ⟨_, rfl, _, rfl, (by show 2 ≤ sizeLine; decide), fun t ht => k _ t (same_upd s2 (s2.free ht)) upd_same⟩
/-! ### Lag, Growing -/
/-- a class with two plain fields as the top has made it -/
structure TwoT (K : PySem.W.Frag) (mg : Str → Option Value) (nm x y : Str) (C : Addr) : Prop where
  cl : Cls K C
  nX : NoAttr K C x
  nY : NoAttr K C y
  g : mg nm = some (.ref C)
def spTwo (C : Addr) (F : Int → Int → List (Str × V)) : Sp := fun vs H Q _ => ∃ (p dx : Addr) (n t : Int), vs = [.ref p, .int n, .int t] ∧ H p = some (.ins C dx []) ∧ ∀ H', H' p = some (.ins C dx (F n t)) → (∀ b o, H b = some o → b ≠ p → H' b = some o) → Q .non H'
theorem scLagI : FnScope ["self", "number", "tick"] ["self", "number", "tick"] (defScope sLagInit) := ⟨rfl, rfl, rfl, by decide +kernel, rfl, by decide +kernel, by decide +kernel⟩
theorem ok_lagI {f : Addr} {fd : FuncData} (F : Fun K "__init__" "Lag.__init__" sLagInit f fd) (T : TwoT K mg "Lag" "number" "tick" C) : FnOk P w K mg base CX0 1 f fd ["self", "number", "tick"] (spTwo C lagF) := by
  refine F.ok scLagI (fun vs H Q E h => ?_) (fun cdv A outer s H vs Q E hr h => ?_)
  · obtain ⟨p, dx, n, t, rfl, _⟩ := h
    rfl
  · obtain ⟨p, dx, n, t, rfl, hp, k⟩ := h
    refine ⟨_, pss_cons (ps_fld (pv 0) (pv 1) rfl) (pss_one (ps_fld (pv 0) (pv 2) rfl)), ?_⟩
    refine ⟨_, rfl, _, rfl, p, C, dx, [], rfl, hp, T.cl, T.nX, (by show 0 < 1000; decide), ?_⟩
    refine ⟨_, rfl, _, rfl, p, C, dx, _, rfl, upd_same, T.cl, T.nY, (by show 1 < 1000; decide), ?_⟩
    refine k _ (by rw [upd_same, putLag]) fun b o e hb => ?_
    rw [upd_ne hb, upd_ne hb]
    exact e
theorem scGrI : FnScope ["self", "growth", "period"] ["self", "growth", "period"] (defScope sGrInit) := ⟨rfl, rfl, rfl, by decide +kernel, rfl, by decide +kernel, by decide +kernel⟩
theorem ok_grI {f : Addr} {fd : FuncData} (F : Fun K "__init__" "Growing.__init__" sGrInit f fd) (T : TwoT K mg "Growing" "growth" "period" C) : FnOk P w K mg base CX0 1 f fd ["self", "growth", "period"] (spTwo C groF) := by
  refine F.ok scGrI (fun vs H Q E h => ?_) (fun cdv A outer s H vs Q E hr h => ?_)
  · obtain ⟨p, dx, n, t, rfl, _⟩ := h
    rfl
  · obtain ⟨p, dx, n, t, rfl, hp, k⟩ := h
    refine ⟨_, pss_cons (ps_fld (pv 0) (pv 1) rfl) (pss_one (ps_fld (pv 0) (pv 2) rfl)), ?_⟩
    refine ⟨_, rfl, _, rfl, p, C, dx, [], rfl, hp, T.cl, T.nX, (by show 0 < 1000; decide), ?_⟩
    refine ⟨_, rfl, _, rfl, p, C, dx, _, rfl, upd_same, T.cl, T.nY, (by show 1 < 1000; decide), ?_⟩
    refine k _ (by rw [upd_same, putGro]) fun b o e hb => ?_
    rw [upd_ne hb, upd_ne hb]
    exact e
def spBool (b : Bool) : Sp := fun vs H Q _ => ∃ (p : Addr), vs = [.ref p] ∧ Q (.bl b) H
theorem scLagB : FnScope ["self"] ["self"] (defScope sLagBool) := ⟨rfl, rfl, rfl, by decide +kernel, rfl, by decide +kernel, by decide +kernel⟩
theorem ok_lagB {f : Addr} {fd : FuncData} (F : Fun K "__bool__" "Lag.__bool__" sLagBool f fd) : FnOk P w K mg base CX0 1 f fd ["self"] (spBool true) := by
  refine F.ok scLagB (fun vs H Q E h => ?_) (fun cdv A outer s H vs Q E hr h => ?_)
  · obtain ⟨p, rfl, _⟩ := h
    rfl
  · obtain ⟨p, rfl, k⟩ := h
    exact ⟨_, pss_one (ps_ret pe_bl), k⟩
theorem scGrB : FnScope ["self"] ["self"] (defScope sGrBool) := ⟨rfl, rfl, rfl, by decide +kernel, rfl, by decide +kernel, by decide +kernel⟩
theorem ok_grB {f : Addr} {fd : FuncData} (F : Fun K "__bool__" "Growing.__bool__" sGrBool f fd) : FnOk P w K mg base CX0 1 f fd ["self"] (spBool false) := by
  refine F.ok scGrB (fun vs H Q E h => ?_) (fun cdv A outer s H vs Q E hr h => ?_)
  · obtain ⟨p, rfl, _⟩ := h
    rfl
  · obtain ⟨p, rfl, k⟩ := h
    exact ⟨_, pss_one (ps_ret pe_bl), k⟩
end
end R49
set_option maxHeartbeats 4000000
/-! lags, growth_of, greatest_lag -/
namespace R49
open PySem PySem.Spec PyProof.Rows L2
section
variable {P : Program} {w : World} {K : PySem.W.Frag} {mg : Str → Option Value} {base : Heap} {C eT cL cG : Addr}
/-! ### lags -/
def spLags (C : Addr) : Sp := fun vs H Q _ => ∃ (p q : Addr) (n : Nat) (f1 p1 f2 p2 : List Int), vs = [.ref p, .ref q, .int n] ∧ n ≤ 900 ∧ TimesAt C H p f1 p1 ∧ TimesAt C H q f2 p2 ∧ p1 ≠ [] ∧ p2 ≠ [] ∧
  ∀ (H' : Hp) (l : Addr), Same H H' → H' l = some (.lst (iV (lagL f1 p1 f2 p2 n))) → Q (.ref l) H'
theorem scLags : FnScope ["fed", "read", "many", "found", "now", "tick"] ["fed", "read", "many"] (defScope sLags) := ⟨rfl, rfl, rfl, by decide +kernel, rfl, by decide +kernel, by decide +kernel⟩
theorem ok_lags {f fA : Addr} {fd fdA : FuncData} (F : Fun K "lags" "lags" sLags f fd) (N : NoG mg) (T : TmT K mg C) (FA : CalM P w K mg base CX0 2 C "at" fA fdA ["self", "tick"] (spTmAt C)) : FnOk P w K mg base CX0 3 f fd ["fed", "read", "many"] (spLags C) := by
  refine F.ok scLags (fun vs H Q E h => ?_) (fun cdv A outer s H vs Q E hr h => ?_)
  · obtain ⟨p, q, n, f1, p1, f2, p2, rfl, _⟩ := h
    rfl
  · obtain ⟨p, q, n, f1, p1, f2, p2, rfl, hn, hp, hq, n1, n2, k⟩ := h
    refine ⟨_, pss_cons (ps_par (i := 3) (j := 4) rfl scLags.nd rfl rfl (by decide) rfl rfl (pa_cons (pe_lst pa_nil) (pa_cons pe_int pa_nil)) rfl)
      (pss_cons (ps_for PassesOwn.never rfl (pi_range1 (by rfl) N.range (pa_cons (pv 2) pa_nil)) (pg_name (i := 5) scLags.nd rfl (Or.inl rfl))
        (pss_cons (ps_set (i := 4) scLags.nd rfl (Or.inl rfl) (pe_callB (call_max2 rfl) (by rfl) N.max PyProof.Rows.boot_max (pa_cons pe_int (pa_cons
          (pe_op op_sub (pe_op op_add (pv 4) (pe_meth (pv 0) T.cl FA.m FA.ok hr FA.b .nil pass0 (pa_cons (pv 5) pa_nil))) (pe_meth (pv 1) T.cl FA.m FA.ok hr FA.b .nil pass0 (pa_cons (pv 5) pa_nil))) pa_nil))))
        (pss_one (ps_expr (pe_bm PySem.F.plainAttrs_list PySem.F.slot_list_append PySem.F.type_list_append mt_append (pv 3) (pa_cons (pv 4) pa_nil))))))
      (pss_one (ps_ret (pv 3)))), ?_⟩
    refine ⟨(by show 0 ≤ sizeLine; omega), fun z hz => ⟨_, _, rfl, ?_⟩⟩
    have s0 : Same H (upd H z (.lst [])) := same_upd (Same.refl _) hz
    refine ⟨_, rfl, _, rfl, (by omega), (by omega), ?_⟩
    refine for_range (lo := 0) (n := n) (fun i σ H' => ∃ t, σ = [some (.ref p), some (.ref q), some (.int n), some (.ref z), some (.int (lgN f1 p1 f2 p2 i)), t] ∧ Same H H' ∧ H' z = some (.lst (iV (lagL f1 p1 f2 p2 i)))) ⟨none, rfl, s0, upd_same⟩ ?_ ?_
    · rintro i σ H1 hi ⟨t, rfl, s1, hz1⟩
      have e0 : (0 : Int) + (i : Int) = (i : Int) := by omega
      rw [e0]
      have hp1 := hp.sm s1
      have hq1 := hq.sm s1
      obtain ⟨dx, a1, b1, e1, e2, e3⟩ := id hp1
      obtain ⟨dy, a2, b2, g1, g2, g3⟩ := id hq1
      refine ⟨_, rfl, _, rfl, p, dx, _, rfl, e1, tmF_no _ _ (by decide +kernel) (by decide +kernel), _, rfl, p, i, f1, p1, rfl, hp1, n1, _, _, rfl, rfl, ?_⟩
      refine ⟨_, rfl, q, dy, _, rfl, g1, tmF_no _ _ (by decide +kernel) (by decide +kernel), _, rfl, q, i, f2, p2, rfl, hq1, n2, _, _, rfl, rfl, _, _, rfl, ?_⟩
      refine ⟨_, rfl, .inl ⟨rfl, _, SqL.of hz1⟩, _, rfl, z, _, _, rfl, rfl, hz1, small1000 (by simp [lagL]; omega), some (.int i), rfl, same_upd s1 hz, ?_⟩
      rw [upd_same]
      unfold lagL
      rw [List.range_succ]
      simp only [iV, List.map_append, List.map_cons, List.map_nil]
      rfl
    · rintro σ H1 ⟨t, rfl, s1, hz1⟩
      exact ⟨_, rfl, k _ z s1 hz1⟩
/-! ### growth_of -/
def spGrowth (C : Addr) : Sp := fun vs H Q _ => ∃ (p q : Addr) (f1 p1 f2 p2 : List Int), vs = [.ref p, .ref q] ∧ TimesAt C H p f1 p1 ∧ TimesAt C H q f2 p2 ∧ Tb f1 p1 ∧ Tb f2 p2 ∧
  ∀ (H' : Hp) (t : Addr), Same H H' → H' t = some (.tup [.int (growth p1 p2), .int (sumM p1 p2 : Nat)]) → Q (.ref t) H'
theorem scGrowth : FnScope ["fed", "read", "front", "period", "more"] ["fed", "read"] (defScope sGrowth) := ⟨rfl, rfl, rfl, by decide +kernel, rfl, by decide +kernel, by decide +kernel⟩
theorem ok_growth {f fJ : Addr} {fd fdJ : FuncData} (F : Fun K "growth_of" "growth_of" sGrowth f fd) (N : NoG mg) (T : TmT K mg C) (FJ : Cal P w K mg base CX0 2 "joint" fJ fdJ ["tables"] (spJoint K C)) : FnOk P w K mg base CX0 3 f fd ["fed", "read"] (spGrowth C) := by
  refine F.ok scGrowth (fun vs H Q E h => ?_) (fun cdv A outer s H vs Q E hr h => ?_)
  · obtain ⟨p, q, f1, p1, f2, p2, rfl, _⟩ := h
    rfl
  · obtain ⟨p, q, f1, p1, f2, p2, rfl, hp, hq, T1, T2, k⟩ := h
    have q1 := T1.pos
    have q2 := T2.pos
    have r1 := T1.p
    have r2 := T2.p
    have hM := sumM_le T1 T2
    refine ⟨_, pss_cons (ps_asg (pe_call FJ.ok hr (by rfl) FJ.g FJ.kp FJ.b .nil pass0 (pa_cons (pe_lst (pa_cons (pv 0) (pa_cons (pv 1) pa_nil))) pa_nil)) (pg_tup rfl (pgs_cons (pg_name (i := 2) scGrowth.nd rfl (Or.inl rfl)) (pgs_cons (pg_name (i := 3) scGrowth.nd rfl (Or.inl rfl)) pgs_nil))))
      (pss_cons (ps_set (i := 4) scGrowth.nd rfl (Or.inl rfl) (pe_op op_sub
        (pe_op op_mul (pe_op op_fdiv (pv 3) (pe_callB call_len_seq (by rfl) N.len PySem.boot_len (pa_cons (pe_fld (pv 0) rfl) pa_nil))) (pe_callB (cr_sum rfl) (by rfl) N.sum PyProof.Rows.boot_sum (pa_cons (pe_fld (pv 0) rfl) pa_nil)))
        (pe_op op_mul (pe_op op_fdiv (pv 3) (pe_callB call_len_seq (by rfl) N.len PySem.boot_len (pa_cons (pe_fld (pv 1) rfl) pa_nil))) (pe_callB (cr_sum rfl) (by rfl) N.sum PyProof.Rows.boot_sum (pa_cons (pe_fld (pv 1) rfl) pa_nil)))))
      (pss_one (ps_ret (pe_tup (pa_cons (pv 4) (pa_cons (pv 3) pa_nil)))))), ?_⟩
    refine ⟨_, rfl, _, rfl, (by show 2 ≤ sizeLine; decide), fun l hl => ?_⟩
    have s0 : Same H (upd H l (.lst [.ref p, .ref q])) := same_upd (Same.refl _) hl
    refine ⟨l, p, q, f1, p1, f2, p2, rfl, .of upd_same, hp.sm s0, hq.sm s0, T1, T2, fun H1 t s1 ht => ?_⟩
    have s01 := s0.trans s1
    refine ⟨t, _, rfl, .of ht, rfl, _, _, rfl, _, _, rfl, rfl, ?_⟩
    obtain ⟨dx, a1, b1, e1, e2, e3⟩ := hp.sm s01
    obtain ⟨dy, a2, b2, g1, g2, g3⟩ := hq.sm s01
    have l1 : ((iV p1).length : Int) = (p1.length : Int) := by rw [List.length_map]
    have l2 : ((iV p2).length : Int) = (p2.length : Int) := by rw [List.length_map]
    have d1 : (sumM p1 p2 : Int) / (p1.length : Int) ≤ 576 := Int.le_trans (Int.ediv_le_self _ (by omega)) (by omega)
    have d2 : (sumM p1 p2 : Int) / (p2.length : Int) ≤ 576 := Int.le_trans (Int.ediv_le_self _ (by omega)) (by omega)
    have z1 : 0 ≤ (sumM p1 p2 : Int) / (p1.length : Int) := Int.ediv_nonneg (by omega) (by omega)
    have z2 : 0 ≤ (sumM p1 p2 : Int) / (p2.length : Int) := Int.ediv_nonneg (by omega) (by omega)
    refine ⟨_, rfl, _, rfl, p, C, dx, _, _, rfl, e1, T.cl, T.nP, tmF_period _ _, b1, _, rfl, .inl (.of e3), _, _, rfl, rfl, ⟨by rw [l1]; omega, by rw [l1]; omega⟩, ?_⟩
    refine ⟨_, rfl, p, C, dx, _, _, rfl, e1, T.cl, T.nP, tmF_period _ _, b1, _, rfl, .of e3, _, _, rfl, rfl, .inl (by rw [l1]; exact ⟨by omega, by omega⟩), ?_⟩
    refine ⟨_, rfl, _, rfl, q, C, dy, _, _, rfl, g1, T.cl, T.nP, tmF_period _ _, b2, _, rfl, .inl (.of g3), _, _, rfl, rfl, ⟨by rw [l2]; omega, by rw [l2]; omega⟩, ?_⟩
    refine ⟨_, rfl, q, C, dy, _, _, rfl, g1, T.cl, T.nP, tmF_period _ _, b2, _, rfl, .of g3, _, _, rfl, rfl, .inl (by rw [l2]; exact ⟨by omega, by omega⟩), _, _, rfl, rfl, ?_⟩
    refine ⟨_, rfl, _, rfl, (by show 2 ≤ sizeLine; decide), fun t2 ht2 => k _ t2 (same_upd s01 (s01.free ht2)) ?_⟩
    rw [upd_same, l1, l2]
    rfl
end
end R49
set_option maxHeartbeats 4000000
/-! greatest_lag -/
namespace R49
open PySem PySem.Spec PyProof.Rows L2
section
variable {P : Program} {w : World} {K : PySem.W.Frag} {mg : Str → Option Value} {base : Heap} {C eT cL cG : Addr}
/-- the lags that greatest_lag looks at -/
def told (f1 p1 f2 p2 : List Int) : List Int := lagL f1 p1 f2 p2 (sumL f1 f2 + 2 * sumM p1 p2)
def spGreat (C cL cG : Addr) : Sp := fun vs H Q _ => ∃ (p q : Addr) (f1 p1 f2 p2 : List Int), vs = [.ref p, .ref q] ∧ TimesAt C H p f1 p1 ∧ TimesAt C H q f2 p2 ∧ Tb f1 p1 ∧ Tb f2 p2 ∧ sumM p1 p2 ≤ 400 ∧
  (growth p1 p2 > 0 → ∀ (H' : Hp) (x dx : Addr), Same H H' → H' x = some (.ins cG dx (groF (growth p1 p2) (sumM p1 p2))) → Q (.ref x) H') ∧
  (¬ growth p1 p2 > 0 → ∀ (H' : Hp) (x dx : Addr) (m : Int) (j : Nat), Same H H' → Top (told f1 p1 f2 p2) m j → H' x = some (.ins cL dx (lagF m j)) → Q (.ref x) H')
theorem scGreat : FnScope ["fed", "read", "growth", "period", "front", "told"] ["fed", "read"] (defScope sGreat) := ⟨rfl, rfl, rfl, by decide +kernel, rfl, by decide +kernel, by decide +kernel⟩
theorem told_len (f1 p1 f2 p2 : List Int) : (told f1 p1 f2 p2).length = sumL f1 f2 + 2 * sumM p1 p2 := by
  unfold told lagL
  simp
theorem flat_iV : ∀ xs : List Int, (iV xs).all flatV = true
  | [] => rfl
  | x :: xs => by
    show (flatV (.int x) && (iV xs).all flatV) = true
    rw [flat_iV xs]
    rfl
theorem ok_great {f fC fW fJ fL fLI fGI : Addr} {fd fdC fdW fdJ fdL fdLI fdGI : FuncData} (F : Fun K "greatest_lag" "greatest_lag" sGreat f fd) (N : NoG mg)
    (FC : Cal P w K mg base CX0 1 "check_times" fC fdC ["thing"] (spChkTm C)) (FW : Cal P w K mg base CX0 3 "growth_of" fW fdW ["fed", "read"] (spGrowth C)) (FJ : Cal P w K mg base CX0 2 "joint" fJ fdJ ["tables"] (spJoint K C)) (FL : Cal P w K mg base CX0 3 "lags" fL fdL ["fed", "read", "many"] (spLags C))
    (ML : Mk K cL fLI) (TL : TwoT K mg "Lag" "number" "tick" cL) (FLI : FnOk P w K mg base CX0 1 fLI fdLI ["self", "number", "tick"] (spTwo cL lagF)) (bL : Binds K fdLI ["self", "number", "tick"] [])
    (MG : Mk K cG fGI) (TG : TwoT K mg "Growing" "growth" "period" cG) (FGI : FnOk P w K mg base CX0 1 fGI fdGI ["self", "growth", "period"] (spTwo cG groF)) (bG : Binds K fdGI ["self", "growth", "period"] []) :
    FnOk P w K mg base CX0 4 f fd ["fed", "read"] (spGreat C cL cG) := by
  refine F.ok scGreat (fun vs H Q E h => ?_) (fun cdv A outer s H vs Q E hr h => ?_)
  · obtain ⟨p, q, f1, p1, f2, p2, rfl, _⟩ := h
    rfl
  · obtain ⟨p, q, f1, p1, f2, p2, rfl, hp, hq, T1, T2, hM, kG, kL⟩ := h
    have hL := sumL_le T1 T2
    have hM0 := sumM_pos T1 T2
    refine ⟨_, pss_cons (ps_expr (pe_call FC.ok (hr.mono (by decide)) (by rfl) FC.g FC.kp FC.b .nil pass0 (pa_cons (pv 0) pa_nil)))
      (pss_cons (ps_expr (pe_call FC.ok (hr.mono (by decide)) (by rfl) FC.g FC.kp FC.b .nil pass0 (pa_cons (pv 1) pa_nil)))
      (pss_cons (ps_asg (pe_call FW.ok hr (by rfl) FW.g FW.kp FW.b .nil pass0 (pa_cons (pv 0) (pa_cons (pv 1) pa_nil))) (pg_tup rfl (pgs_cons (pg_name (i := 2) scGreat.nd rfl (Or.inl rfl)) (pgs_cons (pg_name (i := 3) scGreat.nd rfl (Or.inl rfl)) pgs_nil))))
      (pss_cons (ps_if (pt_cmpR op_gt (pv 2) pe_int (nomark _)) (pss_one (ps_ret (pe_make MG FGI (hr.mono (by decide)) (by rfl) TG.g bG .nil pass0 (pa_cons (pv 2) (pa_cons (pv 3) pa_nil))))) pss_nil)
      (pss_cons (ps_set (i := 4) scGreat.nd rfl (Or.inl rfl) (pe_ix ix_tup (pe_call FJ.ok (hr.mono (by decide)) (by rfl) FJ.g FJ.kp FJ.b .nil pass0 (pa_cons (pe_lst (pa_cons (pv 0) (pa_cons (pv 1) pa_nil))) pa_nil)) pe_int (fun _ _ => rfl)))
      (pss_cons (ps_set (i := 5) scGreat.nd rfl (Or.inl rfl) (pe_call FL.ok hr (by rfl) FL.g FL.kp FL.b .nil pass0 (pa_cons (pv 0) (pa_cons (pv 1) (pa_cons (pe_op op_add (pv 4) (pe_op op_mul pe_int (pv 3))) pa_nil)))))
      (pss_one (ps_ret (pe_make ML FLI (hr.mono (by decide)) (by rfl) TL.g bL .nil pass0 (pa_cons (pe_callB (cr_max rfl) (by rfl) N.max PyProof.Rows.boot_max (pa_cons (pv 5) pa_nil))
        (pa_cons (pe_bm PySem.F.plainAttrs_list PySem.F.slot_list_index PySem.F.type_list_index mt_index (pv 5) (pa_cons (pe_callB (cr_max rfl) (by rfl) N.max PyProof.Rows.boot_max (pa_cons (pv 5) pa_nil)) pa_nil)) pa_nil)))))))))), ?_⟩
    obtain ⟨dx, a1, b1, e1, e2, e3⟩ := id hp
    obtain ⟨dy, a2, b2, g1, g2, g3⟩ := id hq
    refine ⟨_, rfl, p, dx, _, rfl, e1, _, rfl, q, dy, _, rfl, g1, ?_⟩
    refine ⟨_, rfl, _, rfl, p, q, f1, p1, f2, p2, rfl, hp, hq, T1, T2, fun H1 t s1 ht => ?_⟩
    refine ⟨t, _, rfl, .of ht, rfl, _, _, rfl, _, _, rfl, rfl, ?_⟩
    refine ⟨_, rfl, _, _, rfl, rfl, _, rfl, ?_⟩
    by_cases c : growth p1 p2 > 0
    · refine iteD c ?_
      refine ⟨_, rfl, _, rfl, fun x dx nx ndx ne => ?_⟩
      refine ⟨x, dx, _, _, rfl, upd_same, fun H2 h2 kp => ⟨rfl, kG c H2 x dx (fun b o e => ?_) h2⟩⟩
      exact kp b o (by rw [upd_ne (ne_of_none (s1 _ _ e) nx), upd_ne (ne_of_none (s1 _ _ e) ndx)]; exact s1 _ _ e) (ne_of_none (s1 _ _ e) nx)
    · refine iteDN c ?_
      refine ⟨_, rfl, _, rfl, (by show 2 ≤ sizeLine; decide), fun l hl => ?_⟩
      have s2 : Same H (upd H1 l (.lst [.ref p, .ref q])) := same_upd s1 (s1.free hl)
      refine ⟨l, p, q, f1, p1, f2, p2, rfl, .of upd_same, hp.sm s2, hq.sm s2, T1, T2, fun H3 t3 s3 ht3 => ?_⟩
      refine ⟨t3, _, _, _, rfl, rfl, .of ht3, at_of (j := 0) rfl rfl, ?_⟩
      have s23 := s2.trans s3
      refine ⟨_, rfl, _, rfl, _, rfl, _, rfl, _, _, rfl, rfl, .inl ⟨by decide, by decide⟩, _, _, rfl, rfl, ?_⟩
      refine ⟨p, q, sumL f1 f2 + 2 * sumM p1 p2, f1, p1, f2, p2, by simp, by omega, hp.sm s23, hq.sm s23, T1.n, T2.n, fun H4 z s4 hz => ?_⟩
      have hz : H4 z = some (.lst (iV (told f1 p1 f2 p2))) := hz
      have s34 := s23.trans s4
      have hlen := told_len f1 p1 f2 p2
      refine ⟨_, rfl, z, _, rfl, .of hz, by rw [hlen]; omega, fun m hm hle => ?_⟩
      refine ⟨_, rfl, .inl ⟨rfl, _, SqL.of hz⟩, _, rfl, z, _, rfl, .of hz, by rw [hlen]; omega, fun m2 hm2 hle2 => ?_⟩
      have em : m2 = m := Int.le_antisymm (hle _ hm2) (hle2 _ hm)
      subst em
      obtain ⟨j, hj, hfst⟩ := exists_first hm
      refine ⟨z, _, .int m2, j, .int m2, rfl, rfl, .of hz, rfl, flat_iV _, by rw [List.getElem?_map, hj]; rfl, by simp [eqV], fun k z' hk hz' => ?_, ?_⟩
      · obtain ⟨y, hy, rfl⟩ := iV_get hz'
        have := hfst k y hk hy
        simp [eqV, this]
      · intro x dx nx ndx ne
        refine ⟨x, dx, _, _, rfl, upd_same, fun H5 h5 kp => ⟨rfl, kL c H5 x dx m2 j (fun b o e => ?_) ⟨hj, hle, hfst⟩ h5⟩⟩
        exact kp b o (by rw [upd_ne (ne_of_none (s34 _ _ e) nx), upd_ne (ne_of_none (s34 _ _ e) ndx)]; exact s34 _ _ e) (ne_of_none (s34 _ _ e) nx)
end
end R49
set_option maxHeartbeats 4000000
/-! lag_lines; loops over ranges and lists within a generator -/
namespace R49
open PySem PySem.Spec PyProof.Rows L2 GenW
section
variable {g : TG} {tb : TGn} {D : GEnds} {ys : List V} {σ : L2.St} {H : Hp}
theorem gfor_range {lo : Int} {n : Nat} (Pv : Nat → List V → L2.St → Hp → Prop) (h0 : Pv 0 ys σ H)
    (hs : ∀ i ys σ H, i < n → Pv i ys σ H → g (.int (lo + i)) σ H fun σ2 H2 => tb { D with nx := Pv (i + 1), ct := Pv (i + 1), bk := D.nx } ys σ2 H2) (hd : ∀ ys σ H, Pv n ys σ H → D.nx ys σ H) :
    ∃ W : Nat → Nat → List V → L2.St → Hp → Prop, (∃ m, W 0 m ys σ H) ∧ ∀ i m ys σ H, W i m ys σ H →
      ((Itr lo n).stop i H ∧ D.nx ys σ H) ∨ ((Itr lo n).go i H ∧ ∃ N : List V → L2.St → Hp → Prop, (∀ ys' σ' H', N ys' σ' H' → ∃ m', m' < m ∧ W (i + 1) m' ys' σ' H') ∧ ∀ x H', (Itr lo n).yld i H x H' → g x σ H' fun σ2 H2 => tb { D with nx := N, ct := N, bk := D.nx } ys σ2 H2) := by
  refine ⟨fun i m ys σ H => m = n - i ∧ i ≤ n ∧ Pv i ys σ H, ⟨n, by simp, Nat.zero_le _, h0⟩, ?_⟩
  rintro i m ys σ H ⟨rfl, hi, p⟩
  by_cases hlt : i < n
  · refine .inr ⟨hlt, Pv (i + 1), fun ys' σ' H' p' => ⟨n - (i + 1), by omega, rfl, hlt, p'⟩, fun x H' y => ?_⟩
    obtain ⟨e, y⟩ := y
    subst e y
    exact hs i ys σ _ hlt p
  · have e : i = n := by omega
    subst e
    exact .inl ⟨Nat.le_refl _, hd ys σ H p⟩
theorem gfor_list {K : PySem.W.Frag} {a : Addr} {xs : List V} (Pv : Nat → List V → L2.St → Hp → Prop) (h0 : Pv 0 ys σ H) (hl : ∀ i ys σ H, i ≤ xs.length → Pv i ys σ H → SqL K H a xs)
    (hs : ∀ i x ys σ H, xs[i]? = some x → Pv i ys σ H → g x σ H fun σ2 H2 => tb { D with nx := Pv (i + 1), ct := Pv (i + 1), bk := D.nx } ys σ2 H2) (hd : ∀ ys σ H, Pv xs.length ys σ H → D.nx ys σ H) :
    ∃ W : Nat → Nat → List V → L2.St → Hp → Prop, (∃ m, W 0 m ys σ H) ∧ ∀ i m ys σ H, W i m ys σ H →
      ((Itl K a).stop i H ∧ D.nx ys σ H) ∨ ((Itl K a).go i H ∧ ∃ N : List V → L2.St → Hp → Prop, (∀ ys' σ' H', N ys' σ' H' → ∃ m', m' < m ∧ W (i + 1) m' ys' σ' H') ∧ ∀ x H', (Itl K a).yld i H x H' → g x σ H' fun σ2 H2 => tb { D with nx := N, ct := N, bk := D.nx } ys σ2 H2) := by
  refine ⟨fun i m ys σ H => m = xs.length - i ∧ i ≤ xs.length ∧ Pv i ys σ H, ⟨xs.length, by simp, Nat.zero_le _, h0⟩, ?_⟩
  rintro i m ys σ H ⟨rfl, hi, p⟩
  have q := hl i ys σ H hi p
  by_cases hlt : i < xs.length
  · refine .inr ⟨⟨xs, xs[i], q, by simp [hlt]⟩, Pv (i + 1), fun ys' σ' H' p' => ⟨xs.length - (i + 1), by omega, rfl, hlt, p'⟩, fun x H' y => ?_⟩
    obtain ⟨e, y⟩ := y
    subst e
    exact hs i x ys σ _ (y xs q) p
  · have e : i = xs.length := by omega
    subst e
    exact .inl ⟨⟨xs, q, Nat.le_refl _⟩, hd ys σ H p⟩
end
/-! ### the lines -/
def markT (f1 p1 f2 p2 : List Int) (t : Nat) : Str := if lgN f1 p1 f2 p2 (t + 1) > lgN f1 p1 f2 p2 t then "*" else "."
def lineT (f1 p1 f2 p2 : List Int) (t : Nat) : Str := wideT (t : Nat) 6 ++ wideT (numAt f1 p1 t) 5 ++ wideT (numAt f2 p2 t) 5 ++ wideT (lgN f1 p1 f2 p2 (t + 1)) 7 ++ " " ++ markT f1 p1 f2 p2 t
/-- what the lines' numbers are below -/
def LineOk (f1 p1 f2 p2 : List Int) (n : Nat) : Prop := ∀ t, t < n → (0 ≤ numAt f1 p1 t ∧ numAt f1 p1 t < 200) ∧ (0 ≤ numAt f2 p2 t ∧ numAt f2 p2 t < 200) ∧ lgN f1 p1 f2 p2 (t + 1) < 200
theorem lg_nonneg (f1 p1 f2 p2 : List Int) : ∀ n, 0 ≤ lgN f1 p1 f2 p2 n
  | 0 => Int.le_refl _
  | n + 1 => by
    show 0 ≤ mx0 _
    unfold mx0
    split <;> omega
section
variable {P : Program} {w : World} {K : PySem.W.Frag} {mg : Str → Option Value} {base : Heap} {C eT cL cG : Addr}
def spLines (C : Addr) : SpG := fun vs H Q _ => ∃ (p q : Addr) (n f : Nat) (f1 p1 f2 p2 : List Int), vs = [.ref p, .ref q, .int n, .int f] ∧ n + f ≤ 100 ∧ TimesAt C H p f1 p1 ∧ TimesAt C H q f2 p2 ∧ p1 ≠ [] ∧ p2 ≠ [] ∧ LineOk f1 p1 f2 p2 (f + n) ∧
  ∀ H', Same H H' → Q ((List.range n).map fun i => V.str (lineT f1 p1 f2 p2 (f + i))) H'
theorem scLines : GScope ["fed", "read", "many", "first", "told", "tick", "mark"] ["fed", "read", "many", "first"] (defScope sLines) := ⟨rfl, rfl, rfl, by decide +kernel, rfl, by decide +kernel, by decide +kernel⟩
theorem ok_lines {f fC fL fA : Addr} {fd fdC fdL fdA : FuncData} {oc : Value} {od an : Option Addr} {osl : Array (Option Value)} {dV kV doc pm cdv ct : Value} (hfd : fd = PySem.W.fnOf "lag_lines" "lag_lines" (defArgs sLines) (defBody sLines) (defScope sLines) dV kV doc pm an cdv ct)
    (lk : K.lookup f = some ⟨oc, od, .func fd, osl⟩) (hcd : PySem.W.codeIn K cdv "lag_lines" = true) (N : NoG mg) (T : TmT K mg C)
    (FC : Cal P w K mg base CX0 1 "check_times" fC fdC ["thing"] (spChkTm C)) (FL : Cal P w K mg base CX0 3 "lags" fL fdL ["fed", "read", "many"] (spLags C)) (FA : CalM P w K mg base CX0 2 C "at" fA fdA ["self", "tick"] (spTmAt C)) :
    GFn P w K mg base 4 f fd ["fed", "read", "many", "first"] (spLines C) := by
  subst hfd
  refine gfn_of lk hcd scLines (fun vs H Q E h => ?_) (fun A outer s H vs Q E pn hr h => ?_)
  · obtain ⟨p, q, n, f, f1, p1, f2, p2, rfl, _⟩ := h
    rfl
  · obtain ⟨p, q, n, f, f1, p1, f2, p2, rfl, hn, hp, hq, n1, n2, hok, k⟩ := h
    obtain ⟨dx, a1, b1, e1, e2, e3⟩ := id hp
    obtain ⟨dy, a2, b2, g1, g2, g3⟩ := id hq
    refine ⟨_, gss_cons (gs_ps (ps_expr (pe_call FC.ok (hr.mono (by decide)) (by rfl) FC.g FC.kp FC.b .nil pass0 (pa_cons (pv 0) pa_nil))))
      (gss_cons (gs_ps (ps_expr (pe_call FC.ok (hr.mono (by decide)) (by rfl) FC.g FC.kp FC.b .nil pass0 (pa_cons (pv 1) pa_nil))))
      (gss_cons (gs_ps (ps_set (i := 4) scLines.nd rfl (Or.inl rfl) (pe_call FL.ok hr (by rfl) FL.g FL.kp FL.b .nil pass0 (pa_cons (pv 0) (pa_cons (pv 1) (pa_cons (pe_op op_add (pv 3) (pv 2)) pa_nil))))))
      (gss_cons (gs_for (passes_of rfl) rfl (pi_range2 (by rfl) N.range (pa_cons (pv 3) (pa_cons (pe_op op_add (pv 3) (pv 2)) pa_nil))) (pg_name (i := 5) scLines.nd rfl (Or.inl rfl))
        (gss_cons (gs_ps (ps_set (i := 6) scLines.nd rfl (Or.inl rfl) (pe_ifExp (PW.pt (pw_or (PW.pt (pw_and (pt_cmpR op_eq (pv 5) pe_int (nomark _)) (pw_and1 (pt_cmpR op_gt (pe_ix ix_list (pv 4) (pv 5) (fun _ _ => rfl)) pe_int (nomark _)))))
            (pw_or1 (PW.pt (pw_and (pt_cmpR op_gt (pv 5) pe_int (nomark _)) (pw_and1 (pt_cmpR op_gt (pe_ix ix_list (pv 4) (pv 5) (fun _ _ => rfl)) (pe_ix ix_list (pv 4) (pe_op op_sub (pv 5) pe_int) (fun _ _ => rfl)) (nomark _))))))))
            pe_str pe_str)))
        (gss_cons (gs_yield (pe_joined (.cons (pe_fmt6 (pv 5)) (.cons (pe_fmt5 (pe_meth (pv 0) T.cl FA.m FA.ok (hr.mono (by decide)) FA.b .nil pass0 (pa_cons (pv 5) pa_nil))) (.cons (pe_fmt5 (pe_meth (pv 1) T.cl FA.m FA.ok (hr.mono (by decide)) FA.b .nil pass0 (pa_cons (pv 5) pa_nil)))
          (.cons (pe_fmt7 (pe_ix ix_list (pv 4) (pv 5) (fun _ _ => rfl))) (.cons pe_str (.cons (pe_fmt (pv 6)) .nil)))))))) gss_nil))) gss_nil))), ?_⟩
    refine ⟨_, rfl, p, dx, _, rfl, e1, _, rfl, q, dy, _, rfl, g1, ?_⟩
    refine ⟨_, rfl, _, rfl, _, rfl, _, rfl, _, _, rfl, rfl, p, q, f + n, f1, p1, f2, p2, by simp, by omega, hp, hq, n1, n2, fun H2 l s2 hl => ?_⟩
    have en : ((f : Int) + (n : Int) - (f : Int)).toNat = n := by omega
    refine ⟨_, rfl, _, rfl, _, rfl, _, _, rfl, rfl, _, _, rfl, ⟨by omega, by omega, by omega, by omega⟩, ?_⟩
    rw [en]
    have hp2 := hp.sm s2
    have hq2 := hq.sm s2
    obtain ⟨dx2, a12, b12, e12, e22, e32⟩ := id hp2
    obtain ⟨dy2, a22, b22, g12, g22, g32⟩ := id hq2
    refine gfor_range (lo := f) (n := n) (fun i ys σ H' => ∃ t m, σ = [some (.ref p), some (.ref q), some (.int n), some (.int f), some (.ref l), t, m] ∧ H' = H2 ∧ ys = (List.range i).map fun i => V.str (lineT f1 p1 f2 p2 (f + i))) ⟨none, none, rfl, rfl, rfl⟩ ?_ ?_
    · rintro i ys σ H' hi ⟨t, m, rfl, rfl, rfl⟩
      have e0 : (f : Int) + (i : Int) = ((f + i : Nat) : Int) := by omega
      rw [e0]
      have hll : (lagL f1 p1 f2 p2 (f + n)).length = f + n := by unfold lagL; simp
      have hat : ∀ j, j < f + n → (iV (lagL f1 p1 f2 p2 (f + n)))[j]? = some (.int (lgN f1 p1 f2 p2 (j + 1))) := fun j hj => by
        unfold lagL
        simp [hj]
      obtain ⟨⟨w1, w2⟩, ⟨w3, w4⟩, w5⟩ := hok (f + i) (by omega)
      have w6 := lg_nonneg f1 p1 f2 p2 (f + i + 1)
      have hcut : lgN f1 p1 f2 p2 0 = 0 := rfl
      have W1 := wide_ok (a := ((f + i : Nat) : Int)) (by omega) (by omega)
      have W2 := wide_ok w1 w2
      have W3 := wide_ok w3 w4
      have W4 := wide_ok w6 w5
      have b1 := W1.l6
      have b2 := W2.l5
      have b3 := W3.l5
      have b4 := W4.l7
      have tail : ∀ (y : Str), markT f1 p1 f2 p2 (f + i) = y → y.length ≤ 1 →
          (tGYield (fun σ H Q => tJs [tFmtW 6 (tVar 5), tFmtW 5 (tMeth C "at" (spTmAt C) [] E0 (tVar 0) (tCons (tVar 5) tNil)), tFmtW 5 (tMeth C "at" (spTmAt C) [] E0 (tVar 1) (tCons (tVar 5) tNil)),
            tFmtW 7 (tOp (rIxL K) (tVar 4) (tVar 5)), tC (.str " "), tFmt (tVar 6)] Str.empty σ H fun out H1 => Q (.str out) H1))
            { nx := fun ys' σ' H1 => ∃ t m, σ' = [some (.ref p), some (.ref q), some (.int n), some (.int f), some (.ref l), t, m] ∧ H1 = H' ∧ ys' = (List.range (i + 1)).map fun i => V.str (lineT f1 p1 f2 p2 (f + i)), rt := fun _ _ _ => False, bk := fun _ _ _ => False, ct := fun _ _ _ => False }
            ((List.range i).map fun i => V.str (lineT f1 p1 f2 p2 (f + i))) [some (.ref p), some (.ref q), some (.int n), some (.int f), some (.ref l), some (.int (f + i : Nat)), some (.str y)] H' := fun y em hy => by
        subst em
        refine ⟨small1000 (by simp; omega), ?_⟩
        have hb : (" " : Str).length = 1 := by decide
        refine ⟨_, rfl, _, rfl, by omega, by omega, _, rfl, ?_, ?_⟩
        · rw [PySem.Str.empty_append, sizeLine_eq]
          omega
        refine ⟨_, rfl, p, dx2, _, rfl, e12, tmF_no _ _ (by decide +kernel) (by decide +kernel), _, rfl, p, f + i, f1, p1, rfl, hp2, n1, _, rfl, w1, w2, _, rfl, ?_, ?_⟩
        · rw [PySem.Str.empty_append, PySem.Str.length_append, sizeLine_eq]
          omega
        refine ⟨_, rfl, q, dy2, _, rfl, g12, tmF_no _ _ (by decide +kernel) (by decide +kernel), _, rfl, q, f + i, f2, p2, rfl, hq2, n2, _, rfl, w3, w4, _, rfl, ?_, ?_⟩
        · rw [PySem.Str.empty_append, PySem.Str.length_append, PySem.Str.length_append, sizeLine_eq]
          omega
        refine ⟨_, rfl, _, rfl, l, _, _, _, rfl, rfl, .of hl, atI_nat (hat (f + i) (by omega)), _, rfl, w6, w5, _, rfl, ?_, ?_⟩
        · rw [PySem.Str.empty_append, PySem.Str.length_append, PySem.Str.length_append, PySem.Str.length_append, sizeLine_eq]
          omega
        refine ⟨_, rfl, ?_, ?_⟩
        · rw [PySem.Str.empty_append, PySem.Str.length_append, PySem.Str.length_append, PySem.Str.length_append, PySem.Str.length_append, sizeLine_eq]
          omega
        refine ⟨_, rfl, .inl ⟨_, rfl, by rw [sizeLine_eq]; omega, _, rfl, ?_, ?_⟩⟩
        · rw [PySem.Str.empty_append, PySem.Str.length_append, PySem.Str.length_append, PySem.Str.length_append, PySem.Str.length_append, PySem.Str.length_append, sizeLine_eq]
          omega
        refine ⟨_, _, rfl, rfl, ?_⟩
        rw [List.range_succ, List.map_append, PySem.Str.empty_append]
        rfl
      -- the mark
      refine ⟨_, rfl, rfl, _, rfl, ?_⟩
      by_cases c0 : f + i = 0
      case pos =>
        refine iteD (by rw [c0]; rfl) ?_
        refine ⟨_, rfl, _, rfl, l, _, _, _, rfl, rfl, .of hl, atI_nat (hat (f + i) (by omega)), _, _, rfl, rfl, _, rfl, ?_⟩
        by_cases c1 : (0 : Int) < lgN f1 p1 f2 p2 (f + i + 1)
        case pos =>
          have em : markT f1 p1 f2 p2 (f + i) = "*" := by unfold markT; rw [c0, hcut, if_pos (by rw [c0] at c1; exact c1)]
          refine iteD c1 ?_
          first | exact tail "*" em (by decide) | (refine iteT ?_; first | exact tail "*" em (by decide) | (refine iteT ?_; exact tail "*" em (by decide)))
        case neg =>
          have em : markT f1 p1 f2 p2 (f + i) = "." := by unfold markT; rw [c0, hcut, if_neg (by rw [c0] at c1; exact c1)]
          refine iteDN c1 ?_
          refine ⟨_, rfl, _, _, rfl, rfl, _, rfl, ?_⟩
          refine iteDN (by omega) ?_
          first | exact tail "." em (by decide) | (refine iteF ?_; first | exact tail "." em (by decide) | (refine iteF ?_; exact tail "." em (by decide)))
      case neg =>
        refine iteDN (int_ne (by omega)) ?_
        refine iteF ?_
        refine ⟨_, rfl, _, _, rfl, rfl, _, rfl, ?_⟩
        refine iteD (by omega) ?_
        have e1 : ((f + i : Nat) : Int) - 1 = ((f + i - 1 : Nat) : Int) := by omega
        have e2 : f + i - 1 + 1 = f + i := by omega
        refine ⟨_, rfl, _, rfl, l, _, _, _, rfl, rfl, .of hl, atI_nat (hat (f + i) (by omega)), ?_⟩
        refine ⟨_, rfl, _, rfl, _, _, rfl, rfl, l, _, _, _, rfl, rfl, .of hl, at_of e1 (hat (f + i - 1) (by omega)), _, _, rfl, rfl, _, rfl, ?_⟩
        rw [e2]
        by_cases c1 : lgN f1 p1 f2 p2 (f + i) < lgN f1 p1 f2 p2 (f + i + 1)
        case pos =>
          have em : markT f1 p1 f2 p2 (f + i) = "*" := by unfold markT; rw [if_pos c1]
          refine iteD c1 ?_
          first | exact tail "*" em (by decide) | (refine iteT ?_; first | exact tail "*" em (by decide) | (refine iteT ?_; exact tail "*" em (by decide)))
        case neg =>
          have em : markT f1 p1 f2 p2 (f + i) = "." := by unfold markT; rw [if_neg c1]
          refine iteDN c1 ?_
          first | exact tail "." em (by decide) | (refine iteF ?_; first | exact tail "." em (by decide) | (refine iteF ?_; exact tail "." em (by decide)))
    · rintro ys σ H' ⟨t, m, rfl, rfl, rfl⟩
      exact k _ s2
end
end R49
set_option maxHeartbeats 4000000
/-! is_word, are_letters -/
namespace R49
open PySem PySem.Spec PyProof.Rows L2
section
variable {K : PySem.W.Frag} {J : It} {n : Nat} {G : Hp → Prop} {Y : Nat → Hp → V → Hp → Prop} {g : TG} {te : TE} {vs : List Nat} {σ : L2.St} {H1 : Hp} {D : Addr} {Qd : Hp → Prop}
/-- a comprehension over any walk, each item made with nothing touched -/
theorem lcs_it (w : Walk J n G Y) (hD : H1 D = none) (ys : List V) (hn : ys.length = n) (hz : n ≤ 1000) (hG : ∀ H, Same H1 H → G H) (hY : ∀ i H x H', Y i H x H' → Same H H')
    (hs : ∀ (i : Nat) (x y : V) (H H' : Hp) (Q : VK), i < n → ys[i]? = some y → Same H1 H → Y i H x H' → (∀ H'', Same H' H'' → Q y H'') → g x (wipe σ vs) H' fun σ2 H2 => wipe σ2 vs = wipe σ vs ∧ te σ2 H2 Q)
    (hd : ∀ H, Same H1 H → H D = some (.lst ys) → Qd H) :
    ∃ W : Nat → Nat → Hp → Prop, (∃ m, W 0 m (upd H1 D (.lst []))) ∧ ∀ i m H, W i m H →
      (J.stop i H ∧ Qd H) ∨ (J.go i H ∧ ∃ Nx : Hp → Prop, (∀ H', Nx H' → ∃ m', m' < m ∧ W (i + 1) m' H') ∧ ∀ x H', J.yld i H x H' → g x (wipe σ vs) H' fun σ2 H2 => wipe σ2 vs = wipe σ vs ∧ tYes σ2 H2 fun b H3 =>
        if b = true then te σ2 H3 fun y H4 => ∃ acc, H4 D = some (.lst acc) ∧ acc.length < sizeLine ∧ Nx (upd H4 D (.lst (acc ++ [y]))) else Nx H3) := by
  refine lc_it w (fun i H => Same H1 H ∧ H D = some (.lst (ys.take i))) ⟨same_upd (Same.refl _) hD, upd_same⟩ (fun i H _ h => hG H h.1) (fun i x H H' hi h hy => ?_) (fun H h => hd H h.1 (by rw [h.2, ← hn, List.take_length]))
  have hyi : ys[i]? = some (ys[i]'(by omega)) := by simp [hn, hi]
  exact hs i x _ H H' _ hi hyi h.1 hy fun H'' s' => lcs_turn hD hyi (by omega) (h.1.trans ((hY _ _ _ _ hy).trans s')) (((hY _ _ _ _ hy).trans s') _ _ h.2)
end
theorem walk_zipT {K : PySem.W.Frag} {a b : Addr} {xs ys : List V} {n : Nat} (hn : n = min xs.length ys.length) : Walk (RZ.ItzT K a b) n (fun H => SqT K H a xs ∧ SqT K H b ys) (YPair (fun i => xs[i]?) (fun i => ys[i]?)) := by
  subst hn
  refine ⟨fun i _ hi q => ?_, fun _ q => ⟨xs, ys, q.1, q.2, by omega⟩, fun i H v H' _ q y => ?_⟩
  · have h1 : i < xs.length := by omega
    have h2 : i < ys.length := by omega
    exact ⟨xs, ys, xs[i], ys[i], q.1, q.2, by simp [h1], by simp [h2]⟩
  · obtain ⟨T, x, z, h1, h2, h3, h4, h5⟩ := y
    exact ⟨T, x, z, h1, h2, h3, h4 xs q.1, h5 ys q.2⟩
/-! ### plain words -/
def signOk (c : Nat) : Bool := !decide ((⟨#[c]⟩ : Str).cps.toList < ("a" : Str).cps.toList) && !decide (("z" : Str).cps.toList < (⟨#[c]⟩ : Str).cps.toList)
structure WordOk (x : Str) : Prop where
  lo : 1 ≤ x.length
  hi : x.length ≤ 8
  sg : ∀ (i c : Nat), x.cps[i]? = some c → signOk c = true
def wordB (x : Str) : Bool := decide (1 ≤ x.length) && decide (x.length ≤ 8) && x.cps.toList.all signOk
theorem word_of {x : Str} (h : wordB x = true) : WordOk x := by
  unfold wordB at h
  simp only [Bool.and_eq_true, decide_eq_true_eq, List.all_eq_true] at h
  obtain ⟨⟨h1, h2⟩, h3⟩ := h
  refine ⟨h1, h2, fun i c e => h3 c ?_⟩
  exact Array.mem_toList_iff.mpr (Array.mem_of_getElem? e)
/-- words in order -/
structure LetOk (ls : List Str) : Prop where
  lo : 1 ≤ ls.length
  hi : ls.length ≤ 12
  w : ∀ x ∈ ls, WordOk x
  lt : ∀ (i : Nat) (x y : Str), ls[i]? = some x → ls[i + 1]? = some y → x.cps.toList < y.cps.toList
def letB (ls : List Str) : Bool := decide (1 ≤ ls.length) && decide (ls.length ≤ 12) && ls.all wordB && (List.range ls.length).all fun i => match ls[i]?, ls[i + 1]? with | some x, some y => decide (x.cps.toList < y.cps.toList) | _, _ => true
theorem let_of {ls : List Str} (h : letB ls = true) : LetOk ls := by
  unfold letB at h
  simp only [Bool.and_eq_true, decide_eq_true_eq, List.all_eq_true, List.mem_range] at h
  obtain ⟨⟨⟨h1, h2⟩, h3⟩, h4⟩ := h
  refine ⟨h1, h2, fun x hx => word_of (h3 x hx), fun i x y hx hy => ?_⟩
  have := h4 i (List.getElem?_eq_some_iff.mp hx).1
  rw [hx, hy] at this
  simpa using this
section
variable {P : Program} {w : World} {K : PySem.W.Frag} {mg : Str → Option Value} {base : Heap}
/-! ### is_word -/
def spWord : Sp := fun vs H Q _ => ∃ x : Str, vs = [.str x] ∧ WordOk x ∧ ∀ H', Same H H' → Q (.bl true) H'
theorem scWord : FnScope ["thing", "sign"] ["thing"] (defScope sWord) := ⟨rfl, rfl, rfl, by decide +kernel, rfl, by decide +kernel, by decide +kernel⟩
theorem kit_ss : kitB "str" "str" = some true := by decide +kernel
theorem all_true (n : Nat) : ((List.range n).map fun _ => true).all id = true := by
  simp
theorem ok_word {f : Addr} {fd : FuncData} (F : Fun K "is_word" "is_word" sWord f fd) (N : NoG mg) : FnOk P w K mg base CX0 1 f fd ["thing"] spWord := by
  refine F.ok scWord (fun vs H Q E h => ?_) (fun cdv A outer s H vs Q E hr h => ?_)
  · obtain ⟨x, rfl, _⟩ := h
    rfl
  · obtain ⟨x, rfl, W, k⟩ := h
    have w1 := W.lo
    have w2 := W.hi
    have hsz : x.cps.size = x.length := rfl
    refine ⟨_, pss_one (ps_ret (pe_and (pe_callB call_isi (by rfl) N.isinstance PyProof.Rows.boot_isinstance (pa_cons (pv 0) (pa_cons (pe_bltn (by rfl) N.str PyProof.Rows.boot_str (v := .ty "str") rfl) pa_nil)))
      (pe_and (pe_chain op_le op_le pe_int (pe_callB call_len_str (by rfl) N.len PySem.boot_len (pa_cons (pv 0) pa_nil)) pe_int)
      (pe_one (pe_callB (cr_all rfl) (by rfl) N.all PyProof.Rows.boot_all (pa_cons
        (pe_lc (own := [("sign", 1)]) (g := gName 1) (tt := tYes) rfl scWord.nd (pi_str (pv 0)) (blkOk_by (N := ["thing", "sign"]) (sc := defScope sWord) (by decide +kernel)) (fun _ _ _ _ _ => pg_name (i := 1) scWord.nd rfl (Or.inl rfl)) (fun _ _ _ _ _ => pts_nil)
          (fun _ _ _ _ _ => pe_chain op_le_str op_le_str pe_str (pv 1) pe_str)) pa_nil)))))), ?_⟩
    refine ⟨_, rfl, .str x, .ty "str", .type "str", _, true, rfl, .ty _, .base (.str x), kit_ty kit_ss, true, rfl, ?_⟩
    refine iteT ?_
    refine ⟨_, rfl, _, rfl, by rw [sizeLine_eq]; omega, _, _, rfl, rfl, _, rfl, ?_⟩
    refine iteD (by omega) ?_
    refine ⟨_, _, rfl, rfl, ?_⟩
    refine ⟨_, rfl, ?_⟩
    refine iteD (by omega) ?_
    refine ⟨_, rfl, x, rfl, fun D hD => ?_⟩
    refine lcs_it walk_str hD (((List.range x.cps.size).map fun _ => true).map V.bl) (by simp) (by omega) (fun _ _ => True.intro) (fun i H x H' y => by rw [y.1]; exact Same.refl _) (fun i x2 y H1 H2 Q2 hi hy s2 yy q => ?_) (fun H2 s2 hl => ?_)
    · obtain ⟨e, c, hc, rfl⟩ := yy
      subst e
      have hy' : y = .bl true := by
        simp [hi] at hy
        exact hy.symm
      subst hy'
      have hs := W.sg i c hc
      unfold signOk at hs
      simp only [Bool.and_eq_true] at hs
      refine ⟨rfl, _, rfl, _, _, rfl, rfl, _, rfl, ?_⟩
      refine iteB hs.1 ?_
      refine ⟨_, _, rfl, rfl, ?_⟩
      rw [hs.2]
      exact q _ (Same.refl _)
    · refine ⟨D, _, rfl, SqL.of hl, ?_⟩
      rw [all_true]
      exact k _ s2
/-! ### are_letters -/
abbrev sV (ls : List Str) : List V := ls.map V.str
theorem sV_get {xs : List Str} {i : Nat} {y : V} (h : (sV xs)[i]? = some y) : ∃ z, xs[i]? = some z ∧ y = V.str z := by
  rw [List.getElem?_map] at h
  cases e : xs[i]? with
  | none => rw [e] at h; cases h
  | some z => rw [e] at h; exact ⟨z, rfl, (Option.some.inj h).symm⟩
def spLet : Sp := fun vs H Q _ => ∃ (a : Addr) (ls : List Str), vs = [.ref a] ∧ H a = some (.tup (sV ls)) ∧ LetOk ls ∧ ∀ H', Same H H' → Q (.bl true) H'
theorem scLet : FnScope ["thing", "one", "late"] ["thing"] (defScope sLetters) := ⟨rfl, rfl, rfl, by decide +kernel, rfl, by decide +kernel, by decide +kernel⟩
theorem ok_let {f fW : Addr} {fd fdW : FuncData} (F : Fun K "are_letters" "are_letters" sLetters f fd) (N : NoG mg) {tk1 : Tok} (m12 : mg "MOST_LETTERS" = some (.int 12 tk1))
    (FW : Cal P w K mg base CX0 1 "is_word" fW fdW ["thing"] spWord) : FnOk P w K mg base CX0 2 f fd ["thing"] spLet := by
  refine F.ok scLet (fun vs H Q E h => ?_) (fun cdv A outer s H vs Q E hr h => ?_)
  · obtain ⟨a, ls, rfl, _⟩ := h
    rfl
  · obtain ⟨a, ls, rfl, hd, L, k⟩ := h
    have l1 := L.lo
    have l2 := L.hi
    have hl : (sV ls).length = ls.length := by rw [List.length_map]
    refine ⟨_, pss_cons (ps_if (PW.pt (pw_or (pt_not (pt_val (pe_callB call_isi (by rfl) N.isinstance PyProof.Rows.boot_isinstance (pa_cons (pv 0) (pa_cons (pe_bltn (by rfl) N.tuple PyProof.Rows.boot_tuple (v := .ty "tuple") rfl) pa_nil)))))
        (pw_or (pt_not (pt_chain op_le op_le pe_int (pe_callB call_len_seq (by rfl) N.len PySem.boot_len (pa_cons (pv 0) pa_nil)) (pe_glob (v := .int 12) (by rfl) m12 ⟨_, rfl⟩)))
        (pw_or1 (pt_not (pt_val (pe_callB (cr_all rfl) (by rfl) N.all PyProof.Rows.boot_all (pa_cons
          (pe_lc (own := [("one", 1)]) (g := gName 1) (tt := tYes) rfl scLet.nd (pi_tup (pv 0)) (blkOk_by (N := ["thing", "one", "late"]) (sc := defScope sLetters) (by decide +kernel)) (fun _ _ _ _ _ => pg_name (i := 1) scLet.nd rfl (Or.inl rfl)) (fun _ _ _ _ _ => pts_nil)
            (fun _ _ _ _ _ => pe_call FW.ok hr (by rfl) FW.g FW.kp FW.b .nil pass0 (pa_cons (pv 1) pa_nil))) pa_nil)))))))) (pss_one (ps_ret pe_bl)) pss_nil)
      (pss_one (ps_ret (pe_callB (cr_all rfl) (by rfl) N.all PyProof.Rows.boot_all (pa_cons
        (pe_lc (own := [("one", 1), ("late", 2)]) (g := gTup K 2 (gCons (gName 1) (gCons (gName 2) gNil))) (tt := tYes) rfl scLet.nd (RZ.pi_zipA (by rfl) N.zip (pa_cons (pv 0) (pa_cons (pe_slice sl_tupA (pv 0) (po_some pe_int) po_none) pa_nil))) (blkOk_by (N := ["thing", "one", "late"]) (sc := defScope sLetters) (by decide +kernel))
          (fun _ _ _ _ _ => pg_tup rfl (pgs_cons (pg_name (i := 1) scLet.nd rfl (Or.inl rfl)) (pgs_cons (pg_name (i := 2) scLet.nd rfl (Or.inl rfl)) pgs_nil))) (fun _ _ _ _ _ => pts_nil)
          (fun _ _ _ _ _ => pe_cmpR op_lt_str (pv 1) (pv 2) (nomark _))) pa_nil)))), ?_⟩
    refine ⟨_, rfl, .ref a, .ty "tuple", .type "tuple", _, true, rfl, .ty _, .base (.tup hd), kit_ty kit_tt, true, rfl, ?_⟩
    refine iteF ?_
    refine ⟨_, rfl, a, _, rfl, .inr (.of hd), _, _, rfl, rfl, _, rfl, ?_⟩
    refine iteD (by omega) ?_
    refine ⟨_, _, rfl, rfl, _, rfl, ?_⟩
    rw [decide_eq_true (show ((sV ls).length : Int) ≤ 12 by omega)]
    refine iteF ?_
    refine ⟨_, rfl, a, rfl, ⟨_, .of hd⟩, fun D hD => ?_⟩
    refine lcs_tup hD (.of hd) (fun H s => .of (s _ _ hd)) (((List.range ls.length).map fun _ => true).map V.bl) (by simp) (by omega) (fun i x y H2 Q2 hx hy s2 q => ?_) (fun H2 s2 hl2 => ?_)
    · obtain ⟨z, hz, rfl⟩ := sV_get hx
      have hlt : i < ls.length := (List.getElem?_eq_some_iff.mp hz).1
      have hy' : y = .bl true := by
        simp [hlt] at hy
        exact hy.symm
      subst hy'
      exact ⟨rfl, _, rfl, z, rfl, L.w z (List.mem_of_getElem? hz), fun H' s' => q H' s'⟩
    refine ⟨D, _, rfl, SqL.of hl2, true, by rw [all_true], ?_⟩
    refine iteF ?_
    have hd2 := s2 _ _ hd
    refine ⟨_, rfl, _, rfl, _, rfl, a, _, rfl, .of hd2, fun hw => ?_, fun hw p hp => ?_⟩
    · exfalso
      have h1 := hw.1
      rw [show (1 : Int) = ((1 : Nat) : Int) from rfl, HT.sIx_nat] at h1
      omega
    have hcut : cutV (sV ls) (some 1) none = sV (ls.drop 1) := by
      rw [show (1 : Int) = ((1 : Nat) : Int) from rfl, cut_hi (by omega)]
      simp [sV]
    rw [hcut]
    have s3 : Same H2 (upd H2 p (.tup (sV (ls.drop 1)))) := same_upd (Same.refl _) hp
    refine ⟨a, p, _, _, rfl, .inr ⟨.of (s3 _ _ hd2), .of upd_same, fun D2 hD2 => ?_⟩⟩
    refine lcs_it (walk_zipT (n := ls.length - 1) (xs := sV ls) (ys := sV (ls.drop 1)) (by simp)) hD2 (((List.range (ls.length - 1)).map fun _ => true).map V.bl) (by simp) (by omega)
      (fun H s => ⟨.of (s _ _ (s3 _ _ hd2)), .of (s _ _ upd_same)⟩) (fun i H x H' y => by obtain ⟨T, _, _, _, hT, e, _⟩ := y; rw [e]; exact same_upd (Same.refl _) hT) (fun i x2 y H4 H5 Q5 hi hy s5 yy q => ?_) (fun H4 s4 hl4 => ?_)
    · obtain ⟨T, x, z, rfl, hT, rfl, hx, hz⟩ := yy
      obtain ⟨u, hu, rfl⟩ := sV_get hx
      obtain ⟨v, hv, rfl⟩ := sV_get hz
      have hy' : y = .bl true := by
        simp [hi] at hy
        exact hy.symm
      subst hy'
      refine ⟨T, _, rfl, .of upd_same, rfl, _, _, rfl, _, _, rfl, rfl, rfl, _, rfl, _, rfl, _, _, rfl, rfl, ?_⟩
      rw [decide_eq_true (L.lt i u v hu (by simpa using hv))]
      exact q _ (Same.refl _)
    · refine ⟨D2, _, rfl, SqL.of hl4, ?_⟩
      rw [all_true]
      exact k _ (s2.trans (s3.trans s4))
end
end R49
set_option maxHeartbeats 4000000
/-! are_steps -/
namespace R49
open PySem PySem.Spec PyProof.Rows L2
/-- a row of steps -/
def kvOf (ls : List Str) (g : Str → Nat) : List (Key × V) := ls.map fun l => (Sum.inr l, V.int (g l : Nat))
def RowsAt (H : Hp) (a : Addr) (ls : List Str) (gs : List (Str → Nat)) : Prop := ∃ qs : List Addr, H a = some (.lst (qs.map V.ref)) ∧ qs.length = gs.length ∧ ∀ (i : Nat) (q : Addr) (g : Str → Nat), qs[i]? = some q → gs[i]? = some g → H q = some (.dK (kvOf ls g))
theorem RowsAt.sm {H H' : Hp} {a : Addr} {ls : List Str} {gs : List (Str → Nat)} (h : RowsAt H a ls gs) (s : Same H H') : RowsAt H' a ls gs := by
  obtain ⟨qs, h1, h2, h3⟩ := h
  exact ⟨qs, s _ _ h1, h2, fun i q g hq hg => s _ _ (h3 i q g hq hg)⟩
structure StOk (ls : List Str) (gs : List (Str → Nat)) : Prop where
  lo : 1 ≤ gs.length
  hi : gs.length ≤ 900
  lt : ∀ g ∈ gs, ∀ l ∈ ls, g l < gs.length
  ll : ls.length ≤ 12
theorem valV_kv {g : Str → Nat} {l : Str} : ∀ {ls : List Str}, l ∈ ls → valV (kvOf ls g) (Sum.inr l : Key) = some (.int (g l : Nat))
  | [], h => by cases h
  | x :: xs, h => by
    by_cases e : x = l
    · subst e
      exact valV_pos rfl
    · have h2 : l ∈ xs := by
        rcases List.mem_cons.mp h with z | z
        · exact absurd z.symm e
        · exact z
      show valV ((Sum.inr x, V.int (g x : Nat)) :: kvOf xs g) (Sum.inr l : Key) = _
      rw [valV_neg (fun z => e (Sum.inr.inj z))]
      exact valV_kv h2
theorem upd_self {H : Hp} {d : Addr} {u : HO} (h : H d = some u) : upd H d u = H := by
  funext b
  unfold upd
  split
  · rename_i e
    rw [e, h]
  · rfl
theorem refs_get {qs : List Addr} {i : Nat} {x : V} (h : (qs.map V.ref)[i]? = some x) : ∃ q, qs[i]? = some q ∧ x = .ref q := by
  rw [List.getElem?_map] at h
  cases e : qs[i]? with
  | none => rw [e] at h; cases h
  | some q => rw [e] at h; exact ⟨q, rfl, (Option.some.inj h).symm⟩
section
variable {P : Program} {w : World} {K : PySem.W.Frag} {mg : Str → Option Value} {base : Heap}
def spSteps : Sp := fun vs H Q _ => ∃ (la a : Addr) (ls : List Str) (gs : List (Str → Nat)), vs = [.ref la, .ref a] ∧ H la = some (.tup (sV ls)) ∧ RowsAt H a ls gs ∧ StOk ls gs ∧ ∀ H', Same H H' → Q (.bl true) H'
theorem scSteps : FnScope ["letters", "thing", "row", "letter", "goal"] ["letters", "thing"] (defScope sSteps) := ⟨rfl, rfl, rfl, by decide +kernel, rfl, by decide +kernel, by decide +kernel⟩
theorem kit_dd : kitB "dict" "dict" = some true := by decide +kernel
theorem ok_steps {f : Addr} {fd : FuncData} (F : Fun K "are_steps" "are_steps" sSteps f fd) (N : NoG mg) {tk1 : Tok} (m1000 : mg "MOST_STATES" = some (.int 1000 tk1)) : FnOk P w K mg base CX0 1 f fd ["letters", "thing"] spSteps := by
  refine F.ok scSteps (fun vs H Q E h => ?_) (fun cdv A outer s H vs Q E hr h => ?_)
  · obtain ⟨la, a, ls, gs, rfl, _⟩ := h
    rfl
  · obtain ⟨la, a, ls, gs, rfl, hla, ⟨qs, hqs, hqn, hq⟩, S, k⟩ := h
    have l1 := S.lo
    have l2 := S.hi
    have l3 := S.ll
    have hu := hu_of hr
    have hl : (qs.map V.ref).length = gs.length := by rw [List.length_map, hqn]
    refine ⟨_, pss_cons (ps_if (PW.pt (pw_or (pt_not (pt_val (pe_callB call_isiT (by rfl) N.isinstance PyProof.Rows.boot_isinstance (pa_cons (pv 1) (pa_cons (pe_tup (pa_cons (pe_bltn (by rfl) N.list PyProof.Rows.boot_list (v := .ty "list") rfl) (pa_cons (pe_bltn (by rfl) N.tuple PyProof.Rows.boot_tuple (v := .ty "tuple") rfl) pa_nil))) pa_nil)))))
        (pw_or1 (pt_not (pt_chain op_le op_le pe_int (pe_callB call_len_seq (by rfl) N.len PySem.boot_len (pa_cons (pv 1) pa_nil)) (pe_glob (v := .int 1000) (by rfl) m1000 ⟨_, rfl⟩)))))) (pss_one (ps_ret pe_bl)) pss_nil)
      (pss_cons (ps_for PassesOwn.never rfl (pi_list (pv 1)) (pg_name (i := 2) scSteps.nd rfl (Or.inr rfl))
        (pss_cons (ps_if (PW.pt (pw_or (pt_not (pt_val (pe_callB call_isi (by rfl) N.isinstance PyProof.Rows.boot_isinstance (pa_cons (pv 2) (pa_cons (pe_bltn (by rfl) N.dict PyProof.Rows.boot_dict (v := .ty "dict") rfl) pa_nil)))))
            (pw_or (pt_cmpR op_ne (pe_callB call_lenD (by rfl) N.len PySem.boot_len (pa_cons (pv 2) pa_nil)) (pe_callB call_len_seq (by rfl) N.len PySem.boot_len (pa_cons (pv 0) pa_nil)) (nomark _))
            (pw_or1 (pt_not (pt_val (pe_callB (cr_all rfl) (by rfl) N.all PyProof.Rows.boot_all (pa_cons
              (pe_lc (own := [("letter", 3)]) (g := gName 3) (tt := tYes) rfl scSteps.nd (pi_tup (pv 0)) (blkOk_by (N := ["letters", "thing", "row", "letter", "goal"]) (sc := defScope sSteps) (by decide +kernel)) (fun _ _ _ _ _ => pg_name (i := 3) scSteps.nd rfl (Or.inl rfl)) (fun _ _ _ _ _ => pts_nil)
                (fun _ _ _ _ _ => pe_cmp (pc_din hu (pv 3) (pv 2)))) pa_nil)))))))) (pss_one (ps_ret pe_bl)) pss_nil)
        (pss_one (ps_lock (ps_for PassesOwn.never rfl (pi_values (pv 2)) (pg_name (i := 4) scSteps.nd rfl (Or.inl rfl))
          (pss_one (ps_if (PW.pt (pw_or (pt_not (pt_val (pe_callB call_isi (by rfl) N.isinstance PyProof.Rows.boot_isinstance (pa_cons (pv 4) (pa_cons (pe_bltn (by rfl) N.int PyProof.Rows.boot_int (v := .ty "int") rfl) pa_nil)))))
            (pw_or (pt_val (pe_callB call_isi (by rfl) N.isinstance PyProof.Rows.boot_isinstance (pa_cons (pv 4) (pa_cons (pe_bltn (by rfl) N.bool PyProof.Rows.boot_bool (v := .ty "bool") rfl) pa_nil))))
            (pw_or1 (pt_not (pt_chain op_le op_lt pe_int (pv 4) (pe_callB call_len_seq (by rfl) N.len PySem.boot_len (pa_cons (pv 1) pa_nil)))))))) (pss_one (ps_ret pe_bl)) pss_nil)))))))
      (pss_one (ps_ret pe_bl))), ?_⟩
    refine ⟨_, rfl, (by show 2 ≤ sizeLine; decide), fun t ht => ?_⟩
    have s1 : Same H (upd H t (.tup [.ty "list", .ty "tuple"])) := same_upd (Same.refl _) ht
    refine ⟨.ref a, t, [.ty "list", .ty "tuple"], .type "list", [.type "list", .type "tuple"], true, rfl, upd_same, .cons (.ty _) (.cons (.ty _) .nil), .base (.lst (s1 _ _ hqs)), kit_lt, true, rfl, ?_⟩
    refine iteF ?_
    refine ⟨_, rfl, a, _, rfl, .inl (.of (s1 _ _ hqs)), _, _, rfl, rfl, _, rfl, ?_⟩
    refine iteD (by omega) ?_
    refine ⟨_, _, rfl, rfl, _, rfl, ?_⟩
    rw [decide_eq_true (show ((qs.map V.ref).length : Int) ≤ 1000 by omega)]
    refine iteF ?_
    refine ⟨_, rfl, a, rfl, ⟨_, .of (s1 _ _ hqs)⟩, for_list (K := K) (a := a) (xs := qs.map V.ref) (fun i σ H' => ∃ (r t : Option V), σ = [some (.ref la), some (.ref a), r, none, t] ∧ Same H H') ⟨none, none, rfl, s1⟩ (fun i σ H' _ ⟨_, _, _, s2⟩ => .of (s2 _ _ hqs)) ?_ ?_⟩
    · rintro i x σ H' hi ⟨r, t, rfl, s2⟩
      obtain ⟨q, hq1, rfl⟩ := refs_get hi
      obtain ⟨g, hg⟩ : ∃ g, gs[i]? = some g := by
        have := (List.getElem?_eq_some_iff.mp hq1).1
        exact ⟨gs[i]'(by omega), by simp⟩
      have hqd := s2 _ _ (hq i q g hq1 hg)
      have hkl : (kvOf ls g).length = ls.length := by unfold kvOf; simp
      have hll : (sV ls).length = ls.length := by rw [List.length_map]
      refine ⟨_, rfl, .ref q, .ty "dict", .type "dict", _, true, rfl, .ty _, .base (.dK hqd), kit_ty kit_dd, true, rfl, ?_⟩
      refine iteF ?_
      refine ⟨_, rfl, q, _, rfl, hqd, _, rfl, la, _, rfl, .inr (.of (s2 _ _ hla)), rfl, _, rfl, ?_⟩
      refine iteNS (by rw [hkl, hll]) ?_
      refine ⟨_, rfl, la, rfl, ⟨_, .of (s2 _ _ hla)⟩, fun D hD => ?_⟩
      refine lcs_tup hD (.of (s2 _ _ hla)) (fun H s => .of (s _ _ (s2 _ _ hla))) (((List.range ls.length).map fun _ => true).map V.bl) (by simp) (by omega) (fun j x y H2 Q2 hx hy s3 qq => ?_) (fun H2 s3 hl2 => ?_)
      · obtain ⟨z, hz, rfl⟩ := sV_get hx
        have hlt : j < ls.length := (List.getElem?_eq_some_iff.mp hz).1
        have hy' : y = .bl true := by
          simp [hlt] at hy
          exact hy.symm
        subst hy'
        refine ⟨rfl, _, rfl, _, rfl, q, _, rfl, DGet.k (k := Sum.inr z) (s3 _ _ hqd), ?_⟩
        rw [valV_kv (List.mem_of_getElem? hz)]
        exact qq _ (Same.refl _)
      refine ⟨D, _, rfl, SqL.of hl2, true, by rw [all_true], ?_⟩
      refine iteF ?_
      have hqd2 := s3 _ _ hqd
      have s23 := s2.trans s3
      have naq : a ≠ q := ne_of (s23 _ _ hqs) hqd2 (by intro z; cases z)
      refine ⟨q, _, hqd2, (by trivial), fun od => ?_⟩
      refine ⟨_, rfl, q, od, _, rfl, upd_same, for_it walk_values (fun i σ H' => ∃ t, σ = [some (.ref la), some (.ref a), some (.ref q), none, t] ∧ H' = upd H2 q (.frz od (.dK (kvOf ls g)))) ⟨_, rfl, rfl⟩ (fun i σ H' _ ⟨_, _, e⟩ => by rw [e]; exact upd_same) ?_ ?_⟩
      · rintro j x σ H3 H4 hj ⟨t2, rfl, rfl⟩ ⟨rfl, kk, hk⟩
        obtain ⟨l, hl3, e3⟩ : ∃ l, ls[j]? = some l ∧ (Sum.inr l, V.int (g l : Nat)) = (kk, x) := by
          unfold kvOf at hk
          rw [List.getElem?_map] at hk
          cases e : ls[j]? with
          | none => rw [e] at hk; cases hk
          | some l => rw [e] at hk; exact ⟨l, rfl, Option.some.inj hk⟩
        have ex : x = .int (g l : Nat) := (congrArg Prod.snd e3).symm
        subst ex
        have hlt := S.lt g (List.mem_of_getElem? hg) l (List.mem_of_getElem? hl3)
        refine ⟨_, rfl, .int _, .ty "int", .type "int", _, true, rfl, .ty _, .base (.int _), kit_ty kit_ii, true, rfl, ?_⟩
        refine iteF ?_
        refine ⟨_, rfl, .int _, .ty "bool", .type "int", _, false, rfl, .ty _, .base (.int _), kit_ty kit_ib, false, rfl, ?_⟩
        refine iteF ?_
        refine ⟨_, rfl, _, _, rfl, rfl, _, rfl, ?_⟩
        refine iteD (by omega) ?_
        refine ⟨_, rfl, a, _, rfl, .inl (.of (by rw [upd_ne naq]; exact s23 _ _ hqs)), _, _, rfl, rfl, _, rfl, ?_⟩
        rw [decide_eq_true (show ((g l : Nat) : Int) < ((qs.map V.ref).length : Int) by omega)]
        refine iteF ?_
        exact ⟨_, rfl, rfl⟩
      · rintro σ H3 ⟨t2, rfl, rfl⟩
        refine ⟨upd_same, _, _, rfl, ?_⟩
        rw [upd_upd, upd_self hqd2]
        exact s23
    · rintro σ H' ⟨r, t, rfl, s2⟩
      exact k _ s2
end
end R49
set_option maxHeartbeats 4000000
/-! Reader: made, its length; led; check_lane, check_reader; after, answer, called -/
namespace R49
open PySem PySem.Spec PyProof.Rows L2
/-- a reader's attributes -/
def rdF (a b c : Addr) : List (Str × V) := [("letters", .ref a), ("steps", .ref b), ("answers", .ref c)]
theorem rdF_letters (a b c : Addr) : (rdF a b c).lookup ("letters" : Str) = some (.ref a) := by
  have e : (("letters" : Str) == ("letters" : Str)) = true := by decide
  simp only [rdF, List.lookup, e]
theorem rdF_steps (a b c : Addr) : (rdF a b c).lookup ("steps" : Str) = some (.ref b) := by
  have e : (("steps" : Str) == ("letters" : Str)) = false := by decide
  have e2 : (("steps" : Str) == ("steps" : Str)) = true := by decide
  simp only [rdF, List.lookup, e, e2]
theorem rdF_answers (a b c : Addr) : (rdF a b c).lookup ("answers" : Str) = some (.ref c) := by
  have e : (("answers" : Str) == ("letters" : Str)) = false := by decide
  have e2 : (("answers" : Str) == ("steps" : Str)) = false := by decide
  have e3 : (("answers" : Str) == ("answers" : Str)) = true := by decide
  simp only [rdF, List.lookup, e, e2, e3]
theorem rdF_no (a b c : Addr) {m : Str} (h1 : (m == ("letters" : Str)) = false) (h2 : (m == ("steps" : Str)) = false) (h3 : (m == ("answers" : Str)) = false) : (rdF a b c).lookup m = none := by
  simp only [rdF, List.lookup, h1, h2, h3]
theorem putRd (a b c : Addr) : putF "answers" (.ref c) (putF "steps" (.ref b) (putF "letters" (.ref a) [])) = rdF a b c := by
  have h1 : ¬ (("letters" : Str) = "steps") := by decide +kernel
  have h2 : ¬ (("letters" : Str) = "answers") := by decide +kernel
  have h3 : ¬ (("steps" : Str) = "answers") := by decide +kernel
  have e1 : putF "steps" (.ref b) (putF "letters" (.ref a) []) = [(("letters" : Str), V.ref a), ("steps", .ref b)] := by
    show (if ("letters" : Str) = "steps" then _ else (("letters" : Str), V.ref a) :: putF "steps" (V.ref b) []) = _
    rw [if_neg h1]
    rfl
  rw [e1]
  show (if ("letters" : Str) = "answers" then _ else (("letters" : Str), V.ref a) :: (if ("steps" : Str) = "answers" then _ else (("steps" : Str), V.ref b) :: putF "answers" (V.ref c) [])) = _
  rw [if_neg h2, if_neg h3]
  rfl
/-- a reader stands at p -/
def RdAt (C : Addr) (H : Hp) (p : Addr) (ls : List Str) (gs : List (Str → Nat)) (ans : List Str) : Prop := ∃ dx la sa aa, H p = some (.ins C dx (rdF la sa aa)) ∧ H la = some (.tup (sV ls)) ∧ RowsAt H sa ls gs ∧ H aa = some (.lst (sV ans))
theorem RdAt.sm {C : Addr} {H H' : Hp} {p : Addr} {ls : List Str} {gs : List (Str → Nat)} {ans : List Str} (h : RdAt C H p ls gs ans) (s : Same H H') : RdAt C H' p ls gs ans := by
  obtain ⟨dx, la, sa, aa, h1, h2, h3, h4⟩ := h
  exact ⟨dx, la, sa, aa, s _ _ h1, s _ _ h2, h3.sm s, s _ _ h4⟩
/-- the class Reader as the top has made it -/
structure RdT (K : PySem.W.Frag) (mg : Str → Option Value) (C : Addr) : Prop where
  cl : Cls K C
  nL : NoAttr K C "letters"
  nS : NoAttr K C "steps"
  nA : NoAttr K C "answers"
  g : mg "Reader" = some (.ref C)
  ic : PySem.W.findIn K (.ref C) "__class__" = some (some (.builtin "object.__class__"))
  ig : PySem.W.specialIn K (.builtin "object.__class__") "__get__" = some (some (.builtin "getset_descriptor.__get__"))
  ik : PySem.W.takesIn K (.builtin "object.__class__") = some true
  im : PySem.W.mroIn K C (.type "object") = some true
theorem kvOf_snoc {ls : List Str} {g : Str → Nat} {i : Nat} {l : Str} (nd : ls.Nodup) (h : ls[i]? = some l) : putK (kvOf (ls.take i) g) (Sum.inr l : Key) (.int (g l : Nat)) = kvOf (ls.take (i + 1)) g := by
  have hno : valV (kvOf (ls.take i) g) (Sum.inr l : Key) = none := by
    cases e : valV (kvOf (ls.take i) g) (Sum.inr l : Key) with
    | none => rfl
    | some v =>
      have h1 := valV_in e
      unfold kvOf at h1
      rw [List.map_map] at h1
      obtain ⟨x, hx, hx2⟩ := List.mem_map.mp h1
      have hx3 : x = l := Sum.inr.inj hx2
      subst hx3
      obtain ⟨j, hj, hje⟩ := List.mem_iff_getElem.mp hx
      have hji : j < i := by
        rw [List.length_take] at hj
        omega
      have h2 : ls[j]? = some x := by
        rw [← hje, List.getElem_take]
        simp
      exact absurd (nd_ix nd h2 h) (by omega)
  rw [putK_new _ hno]
  unfold kvOf
  rw [← take_up h, List.map_append]
  rfl
theorem yes_of {σ : L2.St} {H : Hp} {A B : Hp → Prop} (h : A H) : tYes σ H fun b H3 => if b = true then A H3 else B H3 := by
  show if true = true then A H else B H
  exact iteT h
/-- the block of the rows' comprehension, as the dict comprehension in it sees it -/
def rowSc : Scope := { kind := .function, names := [(".0", .local), ("row", .cell), ("letters", .cell)], isGenerator := false, isCoroutine := false }
section
variable {P : Program} {w : World} {K : PySem.W.Frag} {mg : Str → Option Value} {base : Heap} {C eR eL : Addr}
theorem RdT.ty (T : RdT K mg C) {H : Hp} {p dx : Addr} {fs : List (Str × V)} (h : H p = some (.ins C dx fs)) : TyX K H (.ref p) (.ref C) := .base (.ins h T.cl T.ic T.ig T.ik T.im)
/-! ### __init__ -/
def spRdInit (C : Addr) : Sp := fun vs H Q _ => ∃ (p dx la sa aa : Addr) (ls : List Str) (gs : List (Str → Nat)) (ans : List Str), vs = [.ref p, .ref la, .ref sa, .ref aa] ∧ H p = some (.ins C dx []) ∧ H la = some (.tup (sV ls)) ∧ RowsAt H sa ls gs ∧ H aa = some (.lst (sV ans)) ∧
  LetOk ls ∧ ls.Nodup ∧ StOk ls gs ∧ ans.length = gs.length ∧ (∀ x ∈ ans, WordOk x) ∧ ∀ H', RdAt C H' p ls gs ans → (∀ b o, H b = some o → b ≠ p → H' b = some o) → Q .non H'
theorem scRd : FnScope ["self", "letters", "steps", "answers", "one", "letter", "row"] ["self", "letters", "steps", "answers"] (defScope sRdInit) := ⟨rfl, rfl, rfl, by decide +kernel, rfl, by decide +kernel, by decide +kernel⟩
theorem ok_rdInit {f fW fL fS : Addr} {fd fdW fdL fdS : FuncData} (F : Fun K "__init__" "Reader.__init__" sRdInit f fd) (N : NoG mg) (T : RdT K mg C) (EX : ExC K mg "BadReader" eR)
    (FW : Cal P w K mg base CX0 1 "is_word" fW fdW ["thing"] spWord) (FL : Cal P w K mg base CX0 2 "are_letters" fL fdL ["thing"] spLet) (FS : Cal P w K mg base CX0 1 "are_steps" fS fdS ["letters", "thing"] spSteps) :
    FnOk P w K mg base CX0 3 f fd ["self", "letters", "steps", "answers"] (spRdInit C) := by
  refine F.ok scRd (fun vs H Q E h => ?_) (fun cdv A outer s H vs Q E hr h => ?_)
  · obtain ⟨p, dx, la, sa, aa, ls, gs, ans, rfl, _⟩ := h
    rfl
  · obtain ⟨p, dx, la, sa, aa, ls, gs, ans, rfl, hp, hla, hsa, haa, L, nd, S, hn, hw, k⟩ := h
    have hu := hu_of hr
    refine ⟨_, pss_cons (ps_if (PW.pt (pw_or (pt_not (pt_val (pe_call FL.ok hr (by rfl) FL.g FL.kp FL.b .nil pass0 (pa_cons (pv 1) pa_nil))))
        (pw_or1 (pt_not (pt_val (pe_call FS.ok (hr.mono (by decide)) (by rfl) FS.g FS.kp FS.b .nil pass0 (pa_cons (pv 1) (pa_cons (pv 2) pa_nil)))))))) (pss_one (ps_raise rfl takes0 (pmk_own PySem.F.excBase_ValueError EX.x EX.g EX.kp (raises_own EX.b EX.t) rfl))) pss_nil)
      (pss_cons (ps_if (PW.pt (pw_or (pt_not (pt_val (pe_callB call_isiT (by rfl) N.isinstance PyProof.Rows.boot_isinstance (pa_cons (pv 3) (pa_cons (pe_tup (pa_cons (pe_bltn (by rfl) N.list PyProof.Rows.boot_list (v := .ty "list") rfl) (pa_cons (pe_bltn (by rfl) N.tuple PyProof.Rows.boot_tuple (v := .ty "tuple") rfl) pa_nil))) pa_nil)))))
        (pw_or1 (pt_cmpR op_ne (pe_callB call_len_seq (by rfl) N.len PySem.boot_len (pa_cons (pv 3) pa_nil)) (pe_callB call_len_seq (by rfl) N.len PySem.boot_len (pa_cons (pv 2) pa_nil)) (nomark _))))) (pss_one (ps_raise rfl takes0 (pmk_own PySem.F.excBase_ValueError EX.x EX.g EX.kp (raises_own EX.b EX.t) rfl))) pss_nil)
      (pss_cons (ps_if (pt_not (pt_val (pe_callB (cr_all rfl) (by rfl) N.all PyProof.Rows.boot_all (pa_cons
          (pe_lc (own := [("one", 4)]) (g := gName 4) (tt := tYes) rfl scRd.nd (pi_list (pv 3)) (blkOk_by (N := ["self", "letters", "steps", "answers", "one", "letter", "row"]) (sc := defScope sRdInit) (by decide +kernel)) (fun _ _ _ _ _ => pg_name (i := 4) scRd.nd rfl (Or.inl rfl)) (fun _ _ _ _ _ => pts_nil)
            (fun _ _ _ _ _ => pe_call FW.ok (hr.mono (by decide)) (by rfl) FW.g FW.kp FW.b .nil pass0 (pa_cons (pv 4) pa_nil))) pa_nil)))) (pss_one (ps_raise rfl takes0 (pmk_own PySem.F.excBase_ValueError EX.x EX.g EX.kp (raises_own EX.b EX.t) rfl))) pss_nil)
      (pss_cons (ps_fld (pv 0) (pv 1) rfl)
      (pss_cons (ps_fld (pv 0) (pe_lc (own := [("row", 6)]) (g := gName 6) (tt := tYes) (te := tDc (iTup K (tVar 1)) (gName 5) tYes (tVar 5) (tDGet (tVar 6) (tVar 5)) [5]) rfl scRd.nd (pi_list (pv 2)) (blkOk_by (N := ["self", "letters", "steps", "answers", "one", "letter", "row"]) (sc := defScope sRdInit) (by decide +kernel)) (fun _ _ _ _ _ => pg_name (i := 6) scRd.nd rfl (Or.inr rfl)) (fun _ _ _ _ _ => pts_nil)
          (fun _ _ _ _ _ => pe_dc (own := [("letter", 5)]) (g := gName 5) (tt := tYes) rfl scRd.nd (pi_tup (pv 1)) (blkOk_by (N := ["self", "letters", "steps", "answers", "one", "letter", "row"]) (sc := rowSc) (by decide +kernel)) (fun _ _ _ _ _ => pg_name (i := 5) scRd.nd rfl (Or.inl rfl)) (fun _ _ _ _ _ => pts_nil)
            (fun _ _ _ _ _ => pv 5) (fun _ _ _ _ _ => pe_dget hu (pv 6) (pv 5) (fun _ _ => rfl)))) rfl)
      (pss_one (ps_fld (pv 0) (pe_callTy call_list_of (by rfl) N.list PyProof.Rows.boot_list (pa_cons (pv 3) pa_nil)) rfl)))))), ?_⟩
    have hd0 : ∀ {H' : Hp}, Same H H' → H' la = some (.tup (sV ls)) := fun s => s _ _ hla
    have an9 : ans.length ≤ 900 := by rw [hn]; exact S.hi
    -- the letters, the steps
    refine ⟨_, rfl, la, ls, rfl, hla, L, fun H1 s1 => ⟨_, rfl, ?_⟩⟩
    refine iteF ?_
    refine ⟨_, rfl, _, rfl, la, sa, ls, gs, rfl, hd0 s1, hsa.sm s1, S, fun H2 s2 => ⟨_, rfl, ?_⟩⟩
    refine iteF ?_
    have s12 := s1.trans s2
    -- the answers
    refine ⟨_, rfl, (by show 2 ≤ sizeLine; decide), fun t ht => ?_⟩
    have s3 : Same H (upd H2 t (.tup [.ty "list", .ty "tuple"])) := same_upd s12 (s12.free ht)
    obtain ⟨qs, hqs, hqn, hq⟩ := id (hsa.sm s3)
    refine ⟨.ref aa, t, [.ty "list", .ty "tuple"], .type "list", [.type "list", .type "tuple"], true, rfl, upd_same, .cons (.ty _) (.cons (.ty _) .nil), .base (.lst (s3 _ _ haa)), kit_lt, true, rfl, ?_⟩
    refine iteF ?_
    refine ⟨_, rfl, aa, _, rfl, .inl (.of (s3 _ _ haa)), _, rfl, sa, _, rfl, .inl (.of hqs), rfl, _, rfl, ?_⟩
    refine iteNS (by rw [List.length_map, List.length_map, hqn, hn]) ?_
    refine ⟨_, rfl, aa, rfl, ⟨_, .of (s3 _ _ haa)⟩, fun D hD => ?_⟩
    refine lcs_list hD (.of (s3 _ _ haa)) (((List.range ans.length).map fun _ => true).map V.bl) (by simp) (by simp; omega) (fun i x y H2 Q2 hx hy s2 q => ?_) (fun H4 s4 hl4 => ?_)
    · obtain ⟨z, hz, rfl⟩ := sV_get hx
      have hlt : i < ans.length := (List.getElem?_eq_some_iff.mp hz).1
      have hy' : y = .bl true := by
        simp [hlt] at hy
        exact hy.symm
      subst hy'
      exact ⟨rfl, _, rfl, z, rfl, hw z (List.mem_of_getElem? hz), fun H' s' => q H' s'⟩
    refine ⟨D, _, rfl, SqL.of hl4, true, by rw [all_true], ?_⟩
    refine iteF ?_
    have s34 := s3.trans s4
    -- self.letters = letters
    refine ⟨_, rfl, _, rfl, p, C, dx, [], rfl, s34 _ _ hp, T.cl, T.nL, (by show 0 < 1000; decide), ?_⟩
    have nlp : la ≠ p := ne_of hla hp (by intro z; cases z)
    obtain ⟨qs0, hqs0, hqn0, hq0⟩ := id hsa
    have nsp : sa ≠ p := ne_of hqs0 hp (by intro z; cases z)
    have nap : aa ≠ p := ne_of haa hp (by intro z; cases z)
    have keep : ∀ (c : Addr) (o : HO), H c = some o → c ≠ p → (upd H4 p (.ins C dx (putF "letters" (.ref la) []))) c = some o := fun c o e n => by rw [upd_ne n]; exact s34 _ _ e
    have h5p : (upd H4 p (.ins C dx (putF "letters" (.ref la) []))) p = some (.ins C dx (putF "letters" (.ref la) [])) := upd_same
    generalize upd H4 p (.ins C dx (putF "letters" (.ref la) [])) = H5 at keep h5p ⊢
    have hqd : ∀ (i : Nat) (q : Addr) (g : Str → Nat), qs0[i]? = some q → gs[i]? = some g → H5 q = some (.dK (kvOf ls g)) := fun i q g e1 e2 => keep q _ (hq0 i q g e1 e2) (ne_of (hq0 i q g e1 e2) hp (by intro z; cases z))
    -- self.steps = [..]
    have h5s := keep sa _ hqs0 nsp
    have h5l := keep la _ hla nlp
    have h5a := keep aa _ haa nap
    refine ⟨_, rfl, sa, rfl, ⟨_, .of h5s⟩, fun D2 hD2 => ?_⟩
    refine lc_list (xs := qs0.map V.ref) (fun i H' => Same H5 H' ∧ ∃ ds : List Addr, ds.length = i ∧ H' D2 = some (.lst (ds.map V.ref)) ∧ ∀ (j : Nat) (d : Addr) (g : Str → Nat), ds[j]? = some d → gs[j]? = some g → H' d = some (.dK (kvOf ls g)))
      ⟨same_upd (Same.refl _) hD2, [], rfl, upd_same, fun j d g e => by simp at e⟩ (fun i H' _ h => .of (h.1 _ _ h5s)) (fun i x H6 hx h => ?_) (fun H6 h => ?_)
    · obtain ⟨s6, ds, hdl, hdD, hds⟩ := h
      obtain ⟨q, hq1, rfl⟩ := refs_get hx
      have hlt := (List.getElem?_eq_some_iff.mp hq1).1
      obtain ⟨g, hg⟩ : ∃ g, gs[i]? = some g := ⟨gs[i]'(by omega), by simp⟩
      have h6q := s6 _ _ (hqd i q g hq1 hg)
      refine ⟨rfl, ?_⟩
      refine yes_of ?_
      refine ⟨_, rfl, la, rfl, ⟨_, .of (s6 _ _ h5l)⟩, fun D3 hD3 => ?_⟩
      refine dc_tup (xs := sV ls) (fun j H' => Same H6 H' ∧ H' D3 = some (.dK (kvOf (ls.take j) g))) ⟨same_upd (Same.refl _) hD3, upd_same⟩ (fun j H' _ h => .of (h.1 _ _ (s6 _ _ h5l))) (fun j y H7 hy h => ?_) (fun H7 h => ?_)
      · obtain ⟨s7, h7⟩ := h
        obtain ⟨l, hl1, rfl⟩ := sV_get hy
        have hgl : DGet H7 q (.str l) (some (.int (g l : Nat))) := by
          rw [← valV_kv (ls := ls) (g := g) (List.mem_of_getElem? hl1)]
          exact DGet.k (k := Sum.inr l) (s7 _ _ h6q)
        refine ⟨rfl, ?_⟩
        refine yes_of ?_
        refine ⟨_, rfl, _, rfl, _, rfl, q, _, rfl, hgl, _, Sum.inr l, rfl, h7, small1000 (by unfold kvOf; simp; have := S.ll; omega), same_upd s7 hD3, ?_⟩
        rw [upd_same, kvOf_snoc nd hl1]
      · obtain ⟨s7, h7⟩ := h
        have e7 : H7 D3 = some (.dK (kvOf ls g)) := by rw [h7, List.length_map, List.take_length]
        refine ⟨_, s7 _ _ hdD, small1000 (by simp; have := S.hi; omega), same_upd (s6.trans s7) hD2, ds ++ [D3], by simp [hdl], by rw [upd_same]; simp, fun j d g2 hj hg2 => ?_⟩
        have nD : ∀ {d : Addr} {kv : List (Key × V)}, H7 d = some (.dK kv) → (upd H7 D2 (.lst (ds.map V.ref ++ [.ref D3]))) d = some (.dK kv) := fun {d kv} e => by
          rw [upd_ne (ne_of e (s7 _ _ hdD) (by intro z; cases z))]
          exact e
        by_cases c : j < ds.length
        · rw [List.getElem?_append_left c] at hj
          exact nD (s7 _ _ (hds j d g2 hj hg2))
        · have ej : j = ds.length := by
            have := (List.getElem?_eq_some_iff.mp hj).1
            rw [List.length_append] at this
            simp at this
            omega
          subst ej
          have ed : d = D3 := by simpa using hj.symm
          subst ed
          rw [hdl, hg] at hg2
          cases hg2
          exact nD e7
    · obtain ⟨s6, ds, hdl, hdD, hds⟩ := h
      rw [List.length_map] at hdl
      have h6p := s6 _ _ h5p
      refine ⟨_, rfl, p, C, dx, _, rfl, h6p, T.cl, T.nS, (by show 1 < 1000; decide), ?_⟩
      have nDp : D2 ≠ p := ne_of hdD h6p (by intro z; cases z)
      have nap6 : (upd H6 p (.ins C dx (putF "steps" (.ref D2) (putF "letters" (.ref la) [])))) aa = some (.lst (sV ans)) := by rw [upd_ne nap]; exact s6 _ _ h5a
      refine ⟨_, rfl, aa, _, rfl, .inl (.of nap6), fun l hl => ?_⟩
      have npl : p ≠ l := ne_of_none (show (upd H6 p _) p = some _ from upd_same) hl
      have old : ∀ (c : Addr) (o : HO), H6 c = some o → c ≠ p → ∀ u v, (upd (upd (upd H6 p (.ins C dx (putF "steps" (.ref D2) (putF "letters" (.ref la) [])))) l u) p v) c = some o := fun c o e n u v => by
        rw [upd_ne n, upd_ne (ne_of_none (show (upd H6 p _) c = some o by rw [upd_ne n]; exact e) hl), upd_ne n]
        exact e
      refine ⟨_, rfl, p, C, dx, _, rfl, (by rw [upd_ne npl]; exact upd_same), T.cl, T.nA, (by show 2 < 1000; decide), ?_⟩
      refine k _ ⟨dx, la, D2, l, ?_, old la _ (s6 _ _ h5l) nlp _ _, ⟨ds, old D2 _ hdD nDp _ _, by omega, fun j d g e1 e2 => old d _ (hds j d g e1 e2) (ne_of (hds j d g e1 e2) h6p (by intro z; cases z)) _ _⟩, ?_⟩ fun c o e hc => old c o (s6 _ _ (keep c o e hc)) hc _ _
      · rw [upd_same, putRd]
      · rw [upd_ne npl.symm, upd_same]
end
end R49
set_option maxHeartbeats 4000000
/-! Reader: its length; led; check_lane, check_reader; after, answer, called -/
namespace R49
open PySem PySem.Spec PyProof.Rows L2
/-- a lane's walk -/
def stepM (gs : List (Str → Nat)) (s : Nat) (l : Str) : Nat := (gs.getD s fun _ => 0) l
def ledM (gs : List (Str → Nat)) (lane : List Str) (s : Nat) : Nat := lane.foldl (stepM gs) s
theorem step_lt {ls : List Str} {gs : List (Str → Nat)} {s : Nat} {l : Str} (S : StOk ls gs) (hl : l ∈ ls) (hs : s < gs.length) : stepM gs s l < gs.length := by
  unfold stepM
  rw [List.getD_eq_getElem?_getD]
  have e : gs[s]? = some gs[s] := by simp [hs]
  rw [e]
  exact S.lt _ (List.mem_of_getElem? e) l hl
theorem led_lt {ls : List Str} {gs : List (Str → Nat)} (S : StOk ls gs) : ∀ {lane : List Str} {s : Nat}, (∀ x ∈ lane, x ∈ ls) → s < gs.length → ledM gs lane s < gs.length
  | [], s, _, hs => hs
  | x :: xs, s, hx, hs => led_lt S (lane := xs) (s := stepM gs s x) (fun y hy => hx y (List.mem_cons_of_mem _ hy)) (step_lt S (hx x List.mem_cons_self) hs)
theorem led_snoc (gs : List (Str → Nat)) (lane : List Str) (x : Str) (s : Nat) : ledM gs (lane ++ [x]) s = stepM gs (ledM gs lane s) x := by
  unfold ledM
  rw [List.foldl_append]
  rfl
section
variable {P : Program} {w : World} {K : PySem.W.Frag} {mg : Str → Option Value} {base : Heap} {C eR eL : Addr}
/-- steps[state][letter] -/
theorem step_at {H : Hp} {sa : Addr} {ls : List Str} {gs : List (Str → Nat)} {s : Nat} {l : Str} (R : RowsAt H sa ls gs) (hl : l ∈ ls) (hs : s < gs.length) :
    ∃ (qs : List Addr) (q : Addr), H sa = some (.lst (qs.map V.ref)) ∧ (qs.map V.ref)[s]? = some (.ref q) ∧ DGet H q (.str l) (some (.int (stepM gs s l : Nat))) := by
  obtain ⟨qs, h1, h2, h3⟩ := R
  have hq : qs[s]? = some (qs[s]'(by omega)) := by simp
  have hg : gs[s]? = some gs[s] := by simp [hs]
  refine ⟨qs, qs[s]'(by omega), h1, by rw [List.getElem?_map, hq]; rfl, ?_⟩
  have e : stepM gs s l = gs[s] l := by
    unfold stepM
    rw [List.getD_eq_getElem?_getD, hg]
    rfl
  rw [e, ← valV_kv (g := gs[s]) hl]
  exact DGet.k (k := Sum.inr l) (h3 _ _ _ hq hg)
/-! ### __len__ -/
def spRdLen (C : Addr) : Sp := fun vs H Q _ => ∃ (p : Addr) (ls : List Str) (gs : List (Str → Nat)) (ans : List Str), vs = [.ref p] ∧ RdAt C H p ls gs ans ∧ Q (.int (gs.length : Nat)) H
theorem scRdLen : FnScope ["self"] ["self"] (defScope sRdLen) := ⟨rfl, rfl, rfl, by decide +kernel, rfl, by decide +kernel, by decide +kernel⟩
theorem ok_rdLen {f : Addr} {fd : FuncData} (F : Fun K "__len__" "Reader.__len__" sRdLen f fd) (N : NoG mg) (T : RdT K mg C) : FnOk P w K mg base CX0 1 f fd ["self"] (spRdLen C) := by
  refine F.ok scRdLen (fun vs H Q E h => ?_) (fun cdv A outer s H vs Q E hr h => ?_)
  · obtain ⟨p, ls, gs, ans, rfl, _⟩ := h
    rfl
  · obtain ⟨p, ls, gs, ans, rfl, ⟨dx, la, sa, aa, h1, h2, ⟨qs, h3, h4, h5⟩, h6⟩, k⟩ := h
    refine ⟨_, pss_one (ps_ret (pe_callB call_len_seq (by rfl) N.len PySem.boot_len (pa_cons (pe_fld (pv 0) rfl) pa_nil))), ?_⟩
    refine ⟨_, rfl, p, C, dx, _, _, rfl, h1, T.cl, T.nS, rdF_steps _ _ _, sa, _, rfl, .inl (.of h3), ?_⟩
    rw [List.length_map, h4]
    exact k
/-! ### led, _law_led -/
def spLed (K : PySem.W.Frag) : Sp := fun vs H Q _ => ∃ (sa ln : Addr) (s : Nat) (ls : List Str) (gs : List (Str → Nat)) (lane : List Str), vs = [.ref sa, .ref ln, .int s] ∧ RowsAt H sa ls gs ∧ SqL K H ln (sV lane) ∧ StOk ls gs ∧ (∀ x ∈ lane, x ∈ ls) ∧ s < gs.length ∧ Q (.int (ledM gs lane s : Nat)) H
theorem scLed : FnScope ["steps", "lane", "state", "letter"] ["steps", "lane", "state"] (defScope sLed) := ⟨rfl, rfl, rfl, by decide +kernel, rfl, by decide +kernel, by decide +kernel⟩
theorem ok_led {f : Addr} {fd : FuncData} (F : Fun K "led" "led" sLed f fd) : FnOk P w K mg base CX0 1 f fd ["steps", "lane", "state"] (spLed K) := by
  refine F.ok scLed (fun vs H Q E h => ?_) (fun cdv A outer s H vs Q E hr h => ?_)
  · obtain ⟨sa, ln, s, ls, gs, lane, rfl, _⟩ := h
    rfl
  · obtain ⟨sa, ln, s0, ls, gs, lane, rfl, R, hln, S, hin, hs, k⟩ := h
    have hu := hu_of hr
    refine ⟨_, pss_cons (ps_for PassesOwn.never rfl (pi_list (pv 1)) (pg_name (i := 3) scLed.nd rfl (Or.inl rfl))
        (pss_one (ps_set (i := 2) scLed.nd rfl (Or.inl rfl) (pe_dget hu (pe_ix ix_list (pv 0) (pv 2) (fun _ _ => rfl)) (pv 3) (fun _ _ => rfl)))))
      (pss_one (ps_ret (pv 2))), ?_⟩
    refine ⟨_, rfl, ln, rfl, ⟨_, hln⟩, for_list (K := K) (a := ln) (xs := sV lane) (fun i σ H' => ∃ t, σ = [some (.ref sa), some (.ref ln), some (.int (ledM gs (lane.take i) s0 : Nat)), t] ∧ H' = H) ⟨none, rfl, rfl⟩ (fun i σ H' _ ⟨_, _, e⟩ => by rw [e]; exact hln) ?_ ?_⟩
    · rintro i x σ H' hx ⟨t, rfl, rfl⟩
      obtain ⟨l, hl, rfl⟩ := sV_get hx
      have hcur : ledM gs (lane.take i) s0 < gs.length := led_lt S (fun y hy => hin y (List.mem_of_mem_take hy)) hs
      obtain ⟨qs, q, e1, e2, e3⟩ := step_at R (hin l (List.mem_of_getElem? hl)) hcur
      refine ⟨_, rfl, _, rfl, sa, _, _, _, rfl, rfl, .of e1, atI_nat e2, _, rfl, q, _, rfl, e3, some (.str l), ?_, rfl⟩
      rw [← take_up hl, led_snoc]
      rfl
    · rintro σ H' ⟨t, rfl, rfl⟩
      rw [List.length_map, List.take_length]
      exact ⟨_, rfl, k⟩
theorem scLLed : FnScope ["_law_steps_here", "_law_lane", "_law_state", "_law_letter"] ["_law_steps_here", "_law_lane", "_law_state"] (defScope sLLed) := ⟨rfl, rfl, rfl, by decide +kernel, rfl, by decide +kernel, by decide +kernel⟩
theorem ok_lled {f : Addr} {fd : FuncData} (F : Fun K "_law_led" "_law_led" sLLed f fd) : FnOk P w K mg base CX0 1 f fd ["_law_steps_here", "_law_lane", "_law_state"] (spLed K) := by
  refine F.ok scLLed (fun vs H Q E h => ?_) (fun cdv A outer s H vs Q E hr h => ?_)
  · obtain ⟨sa, ln, s, ls, gs, lane, rfl, _⟩ := h
    rfl
  · obtain ⟨sa, ln, s0, ls, gs, lane, rfl, R, hln, S, hin, hs, k⟩ := h
    have hu := hu_of hr
    refine ⟨_, pss_cons (ps_for PassesOwn.never rfl (pi_list (pv 1)) (pg_name (i := 3) scLLed.nd rfl (Or.inl rfl))
        (pss_one (ps_set (i := 2) scLLed.nd rfl (Or.inl rfl) (pe_dget hu (pe_ix ix_list (pv 0) (pv 2) (fun _ _ => rfl)) (pv 3) (fun _ _ => rfl)))))
      (pss_one (ps_ret (pv 2))), ?_⟩
    refine ⟨_, rfl, ln, rfl, ⟨_, hln⟩, for_list (K := K) (a := ln) (xs := sV lane) (fun i σ H' => ∃ t, σ = [some (.ref sa), some (.ref ln), some (.int (ledM gs (lane.take i) s0 : Nat)), t] ∧ H' = H) ⟨none, rfl, rfl⟩ (fun i σ H' _ ⟨_, _, e⟩ => by rw [e]; exact hln) ?_ ?_⟩
    · rintro i x σ H' hx ⟨t, rfl, rfl⟩
      obtain ⟨l, hl, rfl⟩ := sV_get hx
      have hcur : ledM gs (lane.take i) s0 < gs.length := led_lt S (fun y hy => hin y (List.mem_of_mem_take hy)) hs
      obtain ⟨qs, q, e1, e2, e3⟩ := step_at R (hin l (List.mem_of_getElem? hl)) hcur
      refine ⟨_, rfl, _, rfl, sa, _, _, _, rfl, rfl, .of e1, atI_nat e2, _, rfl, q, _, rfl, e3, some (.str l), ?_, rfl⟩
      rw [← take_up hl, led_snoc]
      rfl
    · rintro σ H' ⟨t, rfl, rfl⟩
      rw [List.length_map, List.take_length]
      exact ⟨_, rfl, k⟩
/-! ### check_lane -/
def laneB (ls lane : List Str) : Bool := lane.all fun x => decide (x ∈ ls)
def spChkLane (eL : Addr) : Sp := fun vs H Q E => ∃ (la ln : Addr) (ls lane : List Str), vs = [.ref la, .ref ln] ∧ H la = some (.tup (sV ls)) ∧ H ln = some (.lst (sV lane)) ∧ lane.length ≤ 900 ∧
  (laneB ls lane = true → ∀ H', Same H H' → Q .non H') ∧ (laneB ls lane = false → ∀ H', Same H H' → E (.ref eL) none H')
theorem scChkLane : FnScope ["letters", "lane", "one"] ["letters", "lane"] (defScope sChkLane) := ⟨rfl, rfl, rfl, by decide +kernel, rfl, by decide +kernel, by decide +kernel⟩
theorem inV_str (x : Str) : ∀ ls : List Str, inV (.str x) (sV ls) = decide (x ∈ ls)
  | [] => by simp [inV]
  | y :: ys => by
    show (eqV (.str y) (.str x) || inV (.str x) (sV ys)) = _
    rw [inV_str x ys]
    by_cases h : y = x
    · subst h
      simp [eqV]
    · have h' : ¬ x = y := fun z => h z.symm
      simp [eqV, h, h']
theorem flat_sV : ∀ xs : List Str, (sV xs).all flatV = true
  | [] => rfl
  | x :: xs => by
    show (flatV (.str x) && (sV xs).all flatV) = true
    rw [flat_sV xs]
    rfl
theorem ok_chkLane {f : Addr} {fd : FuncData} (F : Fun K "check_lane" "check_lane" sChkLane f fd) (N : NoG mg) (EX : ExC K mg "BadLane" eL) : FnOk P w K mg base (L2.CX P w) 1 f fd ["letters", "lane"] (spChkLane eL) := by
  refine F.okX scChkLane (fun vs H Q E h => ?_) (fun cdv A outer s H vs Q E hr h => ?_)
  · obtain ⟨la, ln, ls, lane, rfl, _⟩ := h
    rfl
  · obtain ⟨la, ln, ls, lane, rfl, hla, hln, hz, kOk, kNo⟩ := h
    refine ⟨_, pss_one (ps_if (PW.pt (pw_or (pt_not (pt_val (pe_callB call_isiT (by rfl) N.isinstance PyProof.Rows.boot_isinstance (pa_cons (pv 1) (pa_cons (pe_tup (pa_cons (pe_bltn (by rfl) N.list PyProof.Rows.boot_list (v := .ty "list") rfl) (pa_cons (pe_bltn (by rfl) N.tuple PyProof.Rows.boot_tuple (v := .ty "tuple") rfl) pa_nil))) pa_nil)))))
        (pw_or1 (pt_not (pt_val (pe_callB (cr_all rfl) (by rfl) N.all PyProof.Rows.boot_all (pa_cons
          (pe_lc (own := [("one", 2)]) (g := gName 2) (tt := tYes) (te := tAndV (tCB (rIsi K) (tCons (tVar 2) (tCons (tC (.ty "str")) tNil))) (tOp (rIn K false) (tVar 2) (tVar 0))) rfl scChkLane.nd (pi_list (pv 1)) (blkOk_by (N := ["letters", "lane", "one"]) (sc := defScope sChkLane) (by decide +kernel)) (fun _ _ _ _ _ => pg_name (i := 2) scChkLane.nd rfl (Or.inl rfl)) (fun _ _ _ _ _ => pts_nil)
            (fun _ _ _ _ _ => pe_and (pe_callB call_isi (by rfl) N.isinstance PyProof.Rows.boot_isinstance (pa_cons (pv 2) (pa_cons (pe_bltn (by rfl) N.str PyProof.Rows.boot_str (v := .ty "str") rfl) pa_nil)))
              (pe_one (pe_cmpR op_in_seq (pv 2) (pv 0) (by with_unfolding_all rfl))))) pa_nil)))))))
        (pss_one (ps_raise rfl (takes_of rfl rfl rfl rfl) (pmk_own PySem.F.excBase_ValueError EX.x EX.g EX.kp (raises_own EX.b EX.t) rfl))) pss_nil), ?_⟩
    refine ⟨_, rfl, (by show 2 ≤ sizeLine; decide), fun t ht => ?_⟩
    have s1 : Same H (upd H t (.tup [.ty "list", .ty "tuple"])) := same_upd (Same.refl _) ht
    refine ⟨.ref ln, t, [.ty "list", .ty "tuple"], .type "list", [.type "list", .type "tuple"], true, rfl, upd_same, .cons (.ty _) (.cons (.ty _) .nil), .base (.lst (s1 _ _ hln)), kit_lt, true, rfl, ?_⟩
    refine iteF ?_
    refine ⟨_, rfl, ln, rfl, ⟨_, .of (s1 _ _ hln)⟩, fun D hD => ?_⟩
    refine lcs_list hD (.of (s1 _ _ hln)) ((lane.map fun x => decide (x ∈ ls)).map V.bl) (by simp) (by simp; omega) (fun i x y H2 Q2 hx hy s2 q => ?_) (fun H2 s2 hl2 => ?_)
    · obtain ⟨z, hz1, rfl⟩ := sV_get hx
      simp [hz1] at hy
      subst hy
      refine ⟨rfl, _, rfl, .str z, .ty "str", .type "str", _, true, rfl, .ty _, .base (.str z), kit_ty kit_ss, true, rfl, ?_⟩
      refine iteT ?_
      refine ⟨_, rfl, _, rfl, la, _, rfl, .inr (.of (s2 _ _ (s1 _ _ hla))), rfl, flat_sV _, ?_⟩
      show Q2 (.bl (inV (.str z) (sV ls))) H2
      rw [inV_str]
      exact q _ (Same.refl _)
    · have e : ((lane.map fun x => decide (x ∈ ls))).all id = laneB ls lane := by
        unfold laneB
        rw [List.all_map]
        rfl
      refine ⟨D, _, rfl, SqL.of hl2, _, rfl, ?_⟩
      rw [e]
      cases c : laneB ls lane with
      | true => exact iteF (kOk c _ (s1.trans s2))
      | false => exact iteT (kNo c _ (s1.trans s2))
/-! ### check_reader -/
theorem scChkRd : FnScope ["thing"] ["thing"] (defScope sChkRd) := ⟨rfl, rfl, rfl, by decide +kernel, rfl, by decide +kernel, by decide +kernel⟩
def spChkRd (C : Addr) : Sp := fun vs H Q _ => ∃ (p dx : Addr) (fs : List (Str × V)), vs = [.ref p] ∧ H p = some (.ins C dx fs) ∧ Q .non H
theorem ok_chkRd {f : Addr} {fd : FuncData} (F : Fun K "check_reader" "check_reader" sChkRd f fd) (T : RdT K mg C) (EX : ExC K mg "BadReader" eR) (N : NoG mg) : FnOk P w K mg base CX0 1 f fd ["thing"] (spChkRd C) := by
  refine F.ok scChkRd (fun vs H Q E h => ?_) (fun cdv A outer s H vs Q E hr h => ?_)
  · obtain ⟨p, dx, fs, rfl, _⟩ := h
    rfl
  · obtain ⟨p, dx, fs, rfl, hp, k⟩ := h
    refine ⟨_, pss_one (ps_if (pt_not (pt_val (pe_callB call_isi (by rfl) N.isinstance PyProof.Rows.boot_isinstance (pa_cons (pv 0) (pa_cons (pe_glob (v := .ref C) (by rfl) T.g rfl) pa_nil)))))
      (pss_one (ps_raise rfl takes0 (pmk_own PySem.F.excBase_ValueError EX.x EX.g EX.kp (raises_own EX.b EX.t) rfl))) pss_nil), ?_⟩
    refine ⟨_, rfl, .ref p, .ref C, .ref C, _, true, rfl, .own C, T.ty hp, kit_own, true, rfl, ?_⟩
    exact iteF k
end
end R49
set_option maxHeartbeats 4000000
/-! Reader: after, answer, called; behind_rows -/
namespace R49
open PySem PySem.Spec PyProof.Rows L2 GenW
section
variable {P : Program} {w : World} {K : PySem.W.Frag} {mg : Str → Option Value} {base : Heap} {C eR eL : Addr}
/-! ### after -/
/-- a lane that the reader at p takes from the state s -/
structure LaneAt (C : Addr) (H : Hp) (p ln : Addr) (ls : List Str) (gs : List (Str → Nat)) (ans lane : List Str) (s : Nat) : Prop where
  rd : RdAt C H p ls gs ans
  st : StOk ls gs
  ln : H ln = some (.lst (sV lane))
  sz : lane.length ≤ 900
  mem : ∀ x ∈ lane, x ∈ ls
  s : s < gs.length
theorem lane_yes {ls lane : List Str} (h : ∀ x ∈ lane, x ∈ ls) : laneB ls lane = true := by
  unfold laneB
  rw [List.all_eq_true]
  exact fun x hx => decide_eq_true (h x hx)
def spAfter (C : Addr) : Sp := fun vs H Q _ => ∃ (p ln : Addr) (s : Nat) (ls : List Str) (gs : List (Str → Nat)) (ans lane : List Str), vs = [.ref p, .ref ln, .int s] ∧ LaneAt C H p ln ls gs ans lane s ∧ ∀ H', Same H H' → Q (.int (ledM gs lane s : Nat)) H'
theorem scAfter : FnScope ["self", "lane", "state"] ["self", "lane", "state"] (defScope sRdAfter) := ⟨rfl, rfl, rfl, by decide +kernel, rfl, by decide +kernel, by decide +kernel⟩
theorem ok_after {f fC fL : Addr} {fd fdC fdL : FuncData} (F : FunD K "after" "Reader.after" (defArgs sRdAfter) (defBody sRdAfter) (defScope sRdAfter) [.int 0] [] f fd) (T : RdT K mg C)
    (FC : Cal P w K mg base (L2.CX P w) 1 "check_lane" fC fdC ["letters", "lane"] (spChkLane eL)) (FL : Cal P w K mg base CX0 1 "led" fL fdL ["steps", "lane", "state"] (spLed K)) : FnOk P w K mg base CX0 2 f fd ["self", "lane", "state"] (spAfter C) := by
  refine F.ok scAfter (fun vs H Q E h => ?_) (fun cdv A outer s H vs Q E hr h => ?_)
  · obtain ⟨p, ln, s, ls, gs, ans, lane, rfl, _⟩ := h
    rfl
  · obtain ⟨p, ln, s0, ls, gs, ans, lane, rfl, ⟨⟨dx, la, sa, aa, h1, h2, h3, h4⟩, S, hln, hz, hin, hs⟩, k⟩ := h
    refine ⟨_, (pss_cons (ps_expr (pe_call FC.ok hr (by rfl) FC.g FC.kp FC.b .nil passN (pa_cons (pe_fld (pv 0) rfl) (pa_cons (pv 1) pa_nil))))
      (pss_one (ps_ret (pe_call FL.ok hr (by rfl) FL.g FL.kp FL.b .nil pass0 (pa_cons (pe_fld (pv 0) rfl) (pa_cons (pv 1) (pa_cons (pv 2) pa_nil))))))), ?_⟩
    refine ⟨_, rfl, p, C, dx, _, _, rfl, h1, T.cl, T.nL, rdF_letters _ _ _, _, rfl, la, ln, ls, lane, rfl, h2, hln, hz, fun _ H1 s1 => ?_, fun z => absurd (lane_yes hin) (by rw [z]; decide)⟩
    refine ⟨_, rfl, p, C, dx, _, _, rfl, s1 _ _ h1, T.cl, T.nS, rdF_steps _ _ _, _, rfl, _, rfl, sa, ln, s0, ls, gs, lane, rfl, h3.sm s1, .of (s1 _ _ hln), S, hin, hs, k _ s1⟩
/-! ### answer, __call__ -/
def spAnswer (C : Addr) : Sp := fun vs H Q _ => ∃ (p ln : Addr) (ls : List Str) (gs : List (Str → Nat)) (ans lane : List Str) (x : Str), vs = [.ref p, .ref ln] ∧ LaneAt C H p ln ls gs ans lane 0 ∧ ans[ledM gs lane 0]? = some x ∧ ∀ H', Same H H' → Q (.str x) H'
theorem scAns : FnScope ["self", "lane"] ["self", "lane"] (defScope sRdAns) := ⟨rfl, rfl, rfl, by decide +kernel, rfl, by decide +kernel, by decide +kernel⟩
theorem ok_answer {f fA : Addr} {fd fdA : FuncData} {ds : List Value} (F : Fun K "answer" "Reader.answer" sRdAns f fd) (T : RdT K mg C)
    (FA : FnOk P w K mg base CX0 2 fA fdA ["self", "lane", "state"] (spAfter C)) (mA : Meth K C "after" fA) (bA : Binds K fdA ["self", "lane", "state"] ds) (dA : Vals [.int 0] ds) : FnOk P w K mg base CX0 3 f fd ["self", "lane"] (spAnswer C) := by
  refine F.ok scAns (fun vs H Q E h => ?_) (fun cdv A outer s H vs Q E hr h => ?_)
  · obtain ⟨p, ln, ls, gs, ans, lane, x, rfl, _⟩ := h
    rfl
  · obtain ⟨p, ln, ls, gs, ans, lane, x, rfl, L, hx, k⟩ := h
    obtain ⟨dx, la, sa, aa, h1, h2, h3, h4⟩ := id L.rd
    refine ⟨_, pss_one (ps_ret (pe_ix ix_list (pe_fld (pv 0) rfl) (pe_meth (pv 0) T.cl mA FA hr bA dA pass0 (pa_cons (pv 1) pa_nil)) (fun _ _ => rfl))), ?_⟩
    refine ⟨_, rfl, p, C, dx, _, _, rfl, h1, T.cl, T.nA, rdF_answers _ _ _, _, rfl, p, dx, _, rfl, h1, rdF_no _ _ _ (by decide +kernel) (by decide +kernel) (by decide +kernel), _, rfl, p, ln, 0, ls, gs, ans, lane, rfl, L, fun H1 s1 => ?_⟩
    exact ⟨aa, _, _, _, rfl, rfl, .of (s1 _ _ h4), atI_nat (by rw [List.getElem?_map, hx]; rfl), k _ s1⟩
theorem scCall : FnScope ["self", "lane"] ["self", "lane"] (defScope sRdCall) := ⟨rfl, rfl, rfl, by decide +kernel, rfl, by decide +kernel, by decide +kernel⟩
theorem ok_rdCall {f fA : Addr} {fd fdA : FuncData} (F : Fun K "__call__" "Reader.__call__" sRdCall f fd) (T : RdT K mg C) (FA : CalM P w K mg base CX0 3 C "answer" fA fdA ["self", "lane"] (spAnswer C)) : FnOk P w K mg base CX0 4 f fd ["self", "lane"] (spAnswer C) := by
  refine F.ok scCall (fun vs H Q E h => ?_) (fun cdv A outer s H vs Q E hr h => ?_)
  · obtain ⟨p, ln, ls, gs, ans, lane, x, rfl, _⟩ := h
    rfl
  · obtain ⟨p, ln, ls, gs, ans, lane, x, rfl, L, hx, k⟩ := h
    obtain ⟨dx, la, sa, aa, h1, h2, h3, h4⟩ := id L.rd
    refine ⟨_, pss_one (ps_ret (pe_meth (pv 0) T.cl FA.m FA.ok hr FA.b .nil pass0 (pa_cons (pv 1) pa_nil))), ?_⟩
    exact ⟨_, rfl, p, dx, _, rfl, h1, rdF_no _ _ _ (by decide +kernel) (by decide +kernel) (by decide +kernel), _, rfl, p, ln, ls, gs, ans, lane, x, rfl, L, hx, k⟩
/-! ### behind_rows -/
def spBehind (C : Addr) : SpG := fun vs H Q _ => ∃ (p ln : Addr) (s : Nat) (ls : List Str) (gs : List (Str → Nat)) (ans lane : List Str), vs = [.ref p, .ref ln, .int s] ∧ LaneAt C H p ln ls gs ans lane s ∧
  ∀ H', Same H H' → Q ((List.range lane.length).map fun i => V.int (ledM gs (lane.take (i + 1)) s : Nat)) H'
theorem scBehind : GScope ["reader", "lane", "state", "letter"] ["reader", "lane", "state"] (defScope sBehind) := ⟨rfl, rfl, rfl, by decide +kernel, rfl, by decide +kernel, by decide +kernel⟩
theorem ok_behind {f fC fL : Addr} {fd fdC fdL : FuncData} {oc : Value} {od an : Option Addr} {osl : Array (Option Value)} {dV kV doc pm cdv ct : Value} (hfd : fd = PySem.W.fnOf "behind_rows" "behind_rows" (defArgs sBehind) (defBody sBehind) (defScope sBehind) dV kV doc pm an cdv ct)
    (lk : K.lookup f = some ⟨oc, od, .func fd, osl⟩) (hcd : PySem.W.codeIn K cdv "behind_rows" = true) (T : RdT K mg C)
    (FC : Cal P w K mg base CX0 1 "check_reader" fC fdC ["thing"] (spChkRd C)) (FL : Cal P w K mg base (L2.CX P w) 1 "check_lane" fL fdL ["letters", "lane"] (spChkLane eL)) :
    GFn P w K mg base 2 f fd ["reader", "lane", "state"] (spBehind C) := by
  subst hfd
  refine gfn_of lk hcd scBehind (fun vs H Q E h => ?_) (fun A outer s H vs Q E pn hr h => ?_)
  · obtain ⟨p, ln, s, ls, gs, ans, lane, rfl, _⟩ := h
    rfl
  · obtain ⟨p, ln, s0, ls, gs, ans, lane, rfl, L, k⟩ := h
    obtain ⟨dx, la, sa, aa, h1, h2, h3, h4⟩ := id L.rd
    have hu := hu_of hr
    refine ⟨_, gss_cons (gs_ps (ps_expr (pe_call FC.ok hr (by rfl) FC.g FC.kp FC.b .nil pass0 (pa_cons (pv 0) pa_nil))))
      (gss_cons (gs_ps (ps_expr (pe_call FL.ok hr (by rfl) FL.g FL.kp FL.b .nil passN (pa_cons (pe_fld (pv 0) rfl) (pa_cons (pv 1) pa_nil)))))
      (gss_cons (gs_for (passes_of rfl) rfl (pi_list (pv 1)) (pg_name (i := 3) scBehind.nd rfl (Or.inl rfl))
        (gss_cons (gs_ps (ps_set (i := 2) scBehind.nd rfl (Or.inl rfl) (pe_dget hu (pe_ix ix_list (pe_fld (pv 0) rfl) (pv 2) (fun _ _ => rfl)) (pv 3) (fun _ _ => rfl))))
        (gss_cons (gs_yield (pv 2)) gss_nil))) gss_nil)), ?_⟩
    refine ⟨_, rfl, p, dx, _, rfl, h1, ?_⟩
    refine ⟨_, rfl, p, C, dx, _, _, rfl, h1, T.cl, T.nL, rdF_letters _ _ _, _, rfl, la, ln, ls, lane, rfl, h2, L.ln, L.sz, fun _ H1 s1 => ?_, fun z => absurd (lane_yes L.mem) (by rw [z]; decide)⟩
    have g3 := h3.sm s1
    refine ⟨_, rfl, ln, rfl, ⟨_, .of (s1 _ _ L.ln)⟩, gfor_list (xs := sV lane) (fun i ys σ H' => ∃ t, σ = [some (.ref p), some (.ref ln), some (.int (ledM gs (lane.take i) s0 : Nat)), t] ∧ H' = H1 ∧ ys = (List.range i).map fun i => V.int (ledM gs (lane.take (i + 1)) s0 : Nat))
      ⟨none, rfl, rfl, rfl⟩ (fun i ys σ H' _ ⟨_, _, e, _⟩ => by rw [e]; exact .of (s1 _ _ L.ln)) ?_ ?_⟩
    · rintro i x ys σ H' hx ⟨t, rfl, rfl, rfl⟩
      obtain ⟨l, hl, rfl⟩ := sV_get hx
      have hlt := (List.getElem?_eq_some_iff.mp hl).1
      have hz := L.sz
      have hcur : ledM gs (lane.take i) s0 < gs.length := led_lt L.st (fun y hy => L.mem y (List.mem_of_mem_take hy)) L.s
      obtain ⟨qs, q, e1, e2, e3⟩ := step_at g3 (L.mem l (List.mem_of_getElem? hl)) hcur
      have es : stepM gs (ledM gs (lane.take i) s0) l = ledM gs (lane.take (i + 1)) s0 := by rw [← take_up hl, led_snoc]
      rw [es] at e3
      refine ⟨_, rfl, p, C, dx, _, _, rfl, s1 _ _ h1, T.cl, T.nS, rdF_steps _ _ _, _, rfl, sa, _, _, _, rfl, rfl, .of e1, atI_nat e2, _, rfl, q, _, rfl, e3, ?_⟩
      refine ⟨small1000 (by simp; omega), _, rfl, some (.str l), rfl, rfl, ?_⟩
      rw [List.range_succ, List.map_append]
      rfl
    · rintro ys σ H' ⟨t, rfl, rfl, rfl⟩
      have e : (sV lane).length = lane.length := by rw [List.length_map]
      rw [e]
      exact k _ s1
/-- behind_rows of a lane that is none -/
def spBehindX (C eL : Addr) : SpX := fun vs H E => ∃ (p ln : Addr) (s : Nat) (ls : List Str) (gs : List (Str → Nat)) (ans lane : List Str), vs = [.ref p, .ref ln, .int s] ∧ RdAt C H p ls gs ans ∧ H ln = some (.lst (sV lane)) ∧ lane.length ≤ 900 ∧ laneB ls lane = false ∧ ∀ H', Same H H' → E (.ref eL) none H'
theorem ok_behindX {f fC fL : Addr} {fd fdC fdL : FuncData} {oc : Value} {od an : Option Addr} {osl : Array (Option Value)} {dV kV doc pm cdv ct : Value} (hfd : fd = PySem.W.fnOf "behind_rows" "behind_rows" (defArgs sBehind) (defBody sBehind) (defScope sBehind) dV kV doc pm an cdv ct)
    (lk : K.lookup f = some ⟨oc, od, .func fd, osl⟩) (hcd : PySem.W.codeIn K cdv "behind_rows" = true) (T : RdT K mg C)
    (FC : Cal P w K mg base CX0 1 "check_reader" fC fdC ["thing"] (spChkRd C)) (FL : Cal P w K mg base (L2.CX P w) 1 "check_lane" fL fdL ["letters", "lane"] (spChkLane eL)) :
    GFx P w K mg base 2 f fd ["reader", "lane", "state"] (spBehindX C eL) := by
  subst hfd
  refine gfx_of lk hcd scBehind (fun vs H E h => ?_) (fun A outer s H vs E pn hr h => ?_)
  · obtain ⟨p, ln, s, ls, gs, ans, lane, rfl, _⟩ := h
    rfl
  · obtain ⟨p, ln, s0, ls, gs, ans, lane, rfl, ⟨dx, la, sa, aa, h1, h2, h3, h4⟩, hln, hz, hno, k⟩ := h
    refine ⟨_, _, ps_expr (pe_call FC.ok hr (by rfl) FC.g FC.kp FC.b .nil pass0 (pa_cons (pv 0) pa_nil)), ps_expr (pe_call FL.ok hr (by rfl) FL.g FL.kp FL.b .nil (passes_call takes_gcx fun _ _ _ _ z => z) (pa_cons (pe_fld (pv 0) rfl) (pa_cons (pv 1) pa_nil))), ?_⟩
    refine ⟨_, rfl, p, dx, _, rfl, h1, ?_⟩
    exact ⟨_, rfl, p, C, dx, _, _, rfl, h1, T.cl, T.nL, rdF_letters _ _ _, _, rfl, la, ln, ls, lane, rfl, h2, hln, hz, fun z => absurd z (by rw [hno]; decide), fun _ => k⟩
end
end R49
set_option maxHeartbeats 4000000
/-! the law's draws: number, take, pick, row -/
namespace R49
open PySem PySem.Spec PyProof.Rows L2
/-- the draw at d: the script at sc, how many were drawn -/
def Drw (K : PySem.W.Frag) (H : Hp) (d sc : Addr) (ns : List Int) : Prop := ∃ (j : Int) (n : Nat), H d = some (.lst [.ref sc, .int j]) ∧ j = (n : Int) ∧ SqL K H sc (iV ns) ∧ (sc ≠ d ∨ ∀ H', SqL K H' sc (iV ns))
/-- all but the draw as it was -/
def SmD (d : Addr) (H H' : Hp) : Prop := ∀ b o, b ≠ d → H b = some o → H' b = some o
theorem SmD.refl (d : Addr) (H : Hp) : SmD d H H := fun _ _ _ e => e
theorem SmD.trans {d : Addr} {H H1 H2 : Hp} (a : SmD d H H1) (b : SmD d H1 H2) : SmD d H H2 := fun c o n e => b c o n (a c o n e)
theorem SmD.of {d : Addr} {H H' : Hp} (s : Same H H') : SmD d H H' := fun b o _ e => s b o e
theorem SmD.seq {K : PySem.W.Frag} {H H' : Hp} {a d : Addr} {xs : List V} (e : SmD d H H') (n : a ≠ d) (h : SqL K H a xs) : SqL K H' a xs := by
  rcases h with (h | ⟨o, h⟩) | h
  · exact .inl (.inl (e _ _ n h))
  · exact .inl (.inr ⟨o, e _ _ n h⟩)
  · exact .inr h
theorem SmD.seqO {K : PySem.W.Frag} {H H' : Hp} {a d : Addr} {xs : List V} (e : SmD d H H') (n : a ≠ d ∨ ∀ H', SqL K H' a xs) (h : SqL K H a xs) : SqL K H' a xs := by
  rcases n with n | n
  · exact e.seq n h
  · exact n H'
theorem Drw.sm {K : PySem.W.Frag} {H H' : Hp} {d sc : Addr} {ns : List Int} (h : Drw K H d sc ns) (s : Same H H') : Drw K H' d sc ns := by
  obtain ⟨j, n, h1, hj, h2, h3⟩ := h
  exact ⟨j, n, s _ _ h1, hj, s.seq h2, h3⟩
theorem smd_upd {d : Addr} {H H1 : Hp} {D : Addr} {o : HO} (h : SmD d H H1) (hD : H D = none) : SmD d H (upd H1 D o) := fun b u n e => by
  rw [upd_ne (ne_of_none e hD)]
  exact h b u n e
theorem SmD.free {d : Addr} {H H' : Hp} (e : SmD d H H') {l : Addr} (n : l ≠ d) (h : H' l = none) : H l = none := by
  cases q : H l with
  | none => rfl
  | some o =>
    rw [e l o n q] at h
    cases h
theorem Drw.ne {K : PySem.W.Frag} {H : Hp} {d sc l : Addr} {ns : List Int} (h : Drw K H d sc ns) (hl : H l = none) : l ≠ d := by
  obtain ⟨j, n, h1, _⟩ := h
  exact (ne_of_none h1 hl).symm
/-- a new thing is written -/
theorem Drw.put {K : PySem.W.Frag} {H0 H : Hp} {d sc L : Addr} {ns : List Int} {o : HO} (D0 : Drw K H0 d sc ns) (D : Drw K H d sc ns) (s : SmD d H0 H) (hL : H0 L = none) : Drw K (upd H L o) d sc ns := by
  obtain ⟨j0, n0, h1, _, h2, h3⟩ := D0
  obtain ⟨j, n, g1, hj, _, _⟩ := D
  exact ⟨j, n, by rw [upd_ne (ne_of_none h1 hL)]; exact g1, hj, (smd_upd s hL).seqO h3 h2, h3⟩
section
variable {P : Program} {w : World} {K : PySem.W.Frag} {mg : Str → Option Value} {base : Heap}
/-! ### _law_number -/
def spLNumber (K : PySem.W.Frag) : Sp := fun vs H Q _ => ∃ (sc : Addr) (j : Int) (n : Nat) (ns : List Int), vs = [.ref sc, .int j] ∧ j = (n : Int) ∧ SqL K H sc (iV ns) ∧ ∀ (r : Nat) (H' : Hp), Same H H' → Q (.int r) H'
theorem scLNumber : FnScope ["_law_script", "_law_index", "_law_cell", "_law_blend"] ["_law_script", "_law_index"] (defScope sLNumber) := ⟨rfl, rfl, rfl, by decide +kernel, rfl, by decide +kernel, by decide +kernel⟩
theorem ok_lnumber {f : Addr} {fd : FuncData} (F : Fun K "_law_number" "_law_number" sLNumber f fd) (N : NoG mg) : FnOk P w K mg base CX0 1 f fd ["_law_script", "_law_index"] (spLNumber K) := by
  refine F.ok scLNumber (fun vs H Q E h => ?_) (fun cdv A outer s H vs Q E hr h => ?_)
  · obtain ⟨sc, j, n, ns, rfl, _⟩ := h
    rfl
  · obtain ⟨sc, _, n, ns, rfl, rfl, hs, k⟩ := h
    have nn : ∀ {i j : Int}, 0 < j → ∃ r : Nat, i % j = (r : Nat) := fun {i j} hj => ⟨(i % j).toNat, by have := Int.emod_nonneg i (show j ≠ 0 by omega); omega⟩
    refine ⟨_, pss_cons (ps_if (pt_cmpR (op_eqD hr.units) (pv 0) (pe_lst pa_nil) (nomark _)) (pss_one (ps_ret (pe_callTy call_int1 (by rfl) N.int PyProof.Rows.boot_int (pa_cons (pe_op op_mod (pe_op op_add (pe_op op_mul (pv 1) pe_int) pe_int) pe_int) pa_nil)))) pss_nil)
      (pss_cons (ps_set (i := 2) scLNumber.nd rfl (Or.inl rfl) (pe_ix ix_list (pv 0) (pe_op op_mod (pv 1) (pe_callB call_len_seq (by rfl) N.len PySem.boot_len (pa_cons (pv 0) pa_nil))) (fun _ _ => rfl)))
      (pss_cons (ps_if (pt_cmpR op_ge (pe_callB call_abs (by rfl) N.abs PyProof.Rows.boot_abs (pa_cons (pv 2) pa_nil)) (pe_op op_pow pe_int pe_int) (nomark _)) (pss_one (ps_set (i := 2) scLNumber.nd rfl (Or.inl rfl) (pe_op op_mod (pv 2) (pe_op op_pow pe_int pe_int)))) pss_nil)
      (pss_cons (ps_set (i := 3) scLNumber.nd rfl (Or.inl rfl) (pe_op op_mod (pe_op op_add (pe_op op_mul (pe_op op_add (pv 2) (pe_op op_mul pe_int (pv 1))) pe_int) (pe_op op_mul pe_int (pe_callB call_len_seq (by rfl) N.len PySem.boot_len (pa_cons (pv 0) pa_nil)))) pe_int))
      (pss_one (ps_ret (pe_callTy call_int1 (by rfl) N.int PyProof.Rows.boot_int (pa_cons (pe_op op_mod (pe_op op_add (pe_op op_mul (pe_op op_mod (pe_op op_mul (pv 3) pe_int) pe_int) pe_int) (pv 1)) pe_int) pa_nil))))))), ?_⟩
    refine ⟨_, rfl, (by show 0 ≤ sizeLine; omega), fun z hz => ?_⟩
    have s0 : Same H (upd H z (.lst [])) := same_upd (Same.refl _) hz
    refine ⟨dI ns, .list [], dp_iV (s0.seq hs), .lst (SqL.of upd_same) .nil, sh_dI _, by decide, _, rfl, ?_⟩
    cases c : PyData.eqv (dI ns) (.list []) with
    | true =>
      refine iteT ?_
      refine ⟨_, rfl, _, _, rfl, rfl, .inr ⟨by decide, by decide⟩, _, _, rfl, rfl, _, _, rfl, rfl, (by show (0 : Int) < 2147483647; decide), .inl ⟨_, rfl, ?_⟩⟩
      obtain ⟨r, e⟩ := nn (i := (n : Int) * 48271 + 12345) (j := 2147483647) (by decide)
      rw [e]
      exact k r _ s0
    | false =>
      refine iteF ?_
      have hne : ns ≠ [] := fun e => by
        subst e
        rw [show PyData.eqv (dI []) (.list []) = true from rfl] at c
        cases c
      have hpos : 0 < ns.length := List.length_pos_iff.mpr hne
      have hl : ((iV ns).length : Int) = (ns.length : Int) := by rw [List.length_map]
      have hm : n % ns.length < ns.length := Nat.mod_lt _ hpos
      have he : (n : Int) % ((iV ns).length : Int) = ((n % ns.length : Nat) : Int) := by rw [hl, Int.natCast_emod]
      have hs0 := s0.seq hs
      refine ⟨_, rfl, _, rfl, _, rfl, sc, _, rfl, .inl hs0, _, _, rfl, rfl, (by show (0 : Int) < ((iV ns).length : Int); omega), sc, _, _, _, rfl, rfl, hs0, at_of he (by rw [List.getElem?_map]; simp [hm]; rfl), ?_⟩
      have rest : ∀ (cell : Int), tSeq (tAsg (tOp (rI (fun _ j => 0 < j) fun i j => .int (i % j)) (tOp (rI0 fun i j => .int (i + j)) (tOp (rI CMul fun i j => .int (i * j)) (tOp (rI0 fun i j => .int (i + j)) (tVar 2) (tOp (rI CMul fun i j => .int (i * j)) (tC (.int 977)) (tVar 1))) (tC (.int 48271)))
          (tOp (rI CMul fun i j => .int (i * j)) (tC (.int 31)) (tCB (fun xs H Q => ∃ p ys, xs = [.ref p] ∧ (SqL K H p ys ∨ SqT K H p ys) ∧ Q (.int ys.length) H) (tCons (tVar 0) tNil)))) (tC (.int 2147483647))) (gName 3))
          (tRet (tCB (fun xs H Q => (∃ i, xs = [.int i] ∧ Q (.int i) H) ∨ ∃ k, xs = [.bl k] ∧ Q (.int (if k then 1 else 0)) H) (tCons (tOp (rI (fun _ j => 0 < j) fun i j => .int (i % j)) (tOp (rI0 fun i j => .int (i + j)) (tOp (rI CMul fun i j => .int (i * j)) (tOp (rI (fun _ j => 0 < j) fun i j => .int (i % j)) (tOp (rI CMul fun i j => .int (i * j)) (tVar 3) (tC (.int 69621))) (tC (.int 2147483629))) (tC (.int 16807))) (tVar 1)) (tC (.int 2147483587))) tNil)))
          { nx := fun _ H' => Q .non H', rt := Q } [some (.ref sc), some (.int n), some (.int cell), none] (upd H z (.lst [])) := fun cell => by
        refine ⟨_, rfl, _, rfl, _, _, rfl, rfl, .inl ⟨by decide, by decide⟩, _, _, rfl, rfl, _, _, rfl, rfl, .inr ⟨by decide, by decide⟩, _, rfl, sc, _, rfl, .inl hs0, _, _, rfl, rfl, .inl ⟨by decide, by decide⟩, _, _, rfl, rfl, _, _, rfl, rfl, (by show (0 : Int) < 2147483647; decide), ?_⟩
        refine ⟨_, rfl, _, _, rfl, rfl, .inr ⟨by decide, by decide⟩, _, _, rfl, rfl, (by show (0 : Int) < 2147483629; decide), _, _, rfl, rfl, .inr ⟨by decide, by decide⟩, _, rfl, _, _, rfl, rfl, _, _, rfl, rfl, (by show (0 : Int) < 2147483587; decide), .inl ⟨_, rfl, ?_⟩⟩
        obtain ⟨r, e⟩ := nn (i := (((cell + 977 * (n : Int)) * 48271 + 31 * ((iV ns).length : Int)) % 2147483647 * 69621 % 2147483629 * 16807 + (n : Int))) (j := 2147483587) (by decide)
        rw [e]
        exact k r _ s0
      refine ⟨_, rfl, _, rfl, _, _, rfl, rfl, ⟨by decide, by decide, by decide⟩, _, _, rfl, rfl, _, rfl, ?_⟩
      refine ite2 (fun c2 => ?_) (fun c2 => ?_)
      · exact ⟨_, rfl, _, _, rfl, rfl, ⟨by decide, by decide, by decide⟩, _, _, rfl, rfl, (by show (0 : Int) < 10 ^ 18; decide), rest _⟩
      · exact rest _
end
end R49
set_option maxHeartbeats 4000000
/-! the law's draws: take, pick, row, letters -/
namespace R49
open PySem PySem.Spec PyProof.Rows L2
section
variable {P : Program} {w : World} {K : PySem.W.Frag} {mg : Str → Option Value} {base : Heap}
/-! ### _law_take -/
def spTake (K : PySem.W.Frag) : Sp := fun vs H Q _ => ∃ (d sc : Addr) (m : Nat) (ns : List Int), vs = [.ref d, .int m] ∧ Drw K H d sc ns ∧ 0 < m ∧ ∀ (r : Nat) (H' : Hp), r < m → Drw K H' d sc ns → SmD d H H' → Q (.int r) H'
theorem scTake : FnScope ["_law_draw", "_law_many"] ["_law_draw", "_law_many"] (defScope sLTake) := ⟨rfl, rfl, rfl, by decide +kernel, rfl, by decide +kernel, by decide +kernel⟩
theorem ok_take {f fN : Addr} {fd fdN : FuncData} (F : Fun K "_law_take" "_law_take" sLTake f fd) (N : NoG mg) (FN : Cal P w K mg base CX0 1 "_law_number" fN fdN ["_law_script", "_law_index"] (spLNumber K)) : FnOk P w K mg base CX0 2 f fd ["_law_draw", "_law_many"] (spTake K) := by
  refine F.ok scTake (fun vs H Q E h => ?_) (fun cdv A outer s H vs Q E hr h => ?_)
  · obtain ⟨d, sc, m, ns, rfl, _⟩ := h
    rfl
  · obtain ⟨d, sc, m, ns, rfl, ⟨_, n, hd, rfl, hs, hne⟩, hm, k⟩ := h
    refine ⟨_, pss_cons (ps_augS (pv 0) pe_int get_list pe_int ip_add set_list)
      (pss_one (ps_ret (pe_op op_mod (pe_callTy call_int1 (by rfl) N.int PyProof.Rows.boot_int (pa_cons (pe_call FN.ok hr (by rfl) FN.g FN.kp FN.b .nil pass0
        (pa_cons (pe_ix ix_list (pv 0) pe_int (fun _ _ => rfl)) (pa_cons (pe_callTy call_int1 (by rfl) N.int PyProof.Rows.boot_int (pa_cons (pe_ix ix_list (pv 0) pe_int (fun _ _ => rfl)) pa_nil)) pa_nil))) pa_nil)) (pv 1)))), ?_⟩
    refine ⟨_, rfl, d, _, 1, _, rfl, rfl, by decide, .of hd, rfl, _, _, rfl, rfl, d, _, 1, 1, rfl, rfl, hd, rfl, ?_⟩
    have hd1 : (upd H d (.lst ([V.ref sc, V.int (n : Int)].set 1 (V.int ((n : Int) + 1))))) d = some (.lst [.ref sc, .int ((n : Int) + 1)]) := upd_same
    have s1 : SmD d H (upd H d (.lst ([V.ref sc, V.int (n : Int)].set 1 (V.int ((n : Int) + 1))))) := fun b o nb e => by rw [upd_ne nb]; exact e
    refine ⟨_, rfl, d, _, _, _, rfl, rfl, .of hd1, at_of (j := 0) rfl rfl, _, rfl, d, _, _, _, rfl, rfl, .of hd1, at_of (j := 1) rfl rfl, .inl ⟨_, rfl, sc, _, n + 1, ns, rfl, by omega, s1.seqO hne hs, fun r H2 s2 => .inl ⟨_, rfl, _, rfl, _, _, rfl, rfl, (by show (0 : Int) < (m : Int); omega), ?_⟩⟩⟩
    show Q (.int ((r : Int) % (m : Int))) H2
    rw [← Int.natCast_emod]
    exact k (r % m) H2 (Nat.mod_lt _ hm) ⟨_, n + 1, s2 _ _ hd1, by omega, s2.seq (s1.seqO hne hs), hne⟩ (s1.trans (SmD.of s2))
/-! ### _law_pick -/
def spPickL (K : PySem.W.Frag) : Sp := fun vs H Q _ => ∃ (d sc a : Addr) (xs : List V) (ns : List Int), vs = [.ref d, .ref a] ∧ Drw K H d sc ns ∧ SqL K H a xs ∧ a ≠ d ∧ xs ≠ [] ∧ ∀ (i : Nat) (x : V) (H' : Hp), xs[i]? = some x → Drw K H' d sc ns → SmD d H H' → Q x H'
def spPickT (K : PySem.W.Frag) : Sp := fun vs H Q _ => ∃ (d sc a : Addr) (xs : List V) (ns : List Int), vs = [.ref d, .ref a] ∧ Drw K H d sc ns ∧ H a = some (.tup xs) ∧ xs ≠ [] ∧ ∀ (i : Nat) (x : V) (H' : Hp), xs[i]? = some x → Drw K H' d sc ns → SmD d H H' → Q x H'
theorem scPick : FnScope ["_law_draw", "_law_items"] ["_law_draw", "_law_items"] (defScope sLPick) := ⟨rfl, rfl, rfl, by decide +kernel, rfl, by decide +kernel, by decide +kernel⟩
theorem ok_pickL {f fT : Addr} {fd fdT : FuncData} (F : Fun K "_law_pick" "_law_pick" sLPick f fd) (N : NoG mg) (FT : Cal P w K mg base CX0 2 "_law_take" fT fdT ["_law_draw", "_law_many"] (spTake K)) : FnOk P w K mg base CX0 3 f fd ["_law_draw", "_law_items"] (spPickL K) := by
  refine F.ok scPick (fun vs H Q E h => ?_) (fun cdv A outer s H vs Q E hr h => ?_)
  · obtain ⟨d, sc, a, xs, ns, rfl, _⟩ := h
    rfl
  · obtain ⟨d, sc, a, xs, ns, rfl, D, ha, nad, hne, k⟩ := h
    refine ⟨_, pss_one (ps_ret (pe_ix ix_list (pv 1) (pe_call FT.ok hr (by rfl) FT.g FT.kp FT.b .nil pass0 (pa_cons (pv 0) (pa_cons (pe_callB call_len_seq (by rfl) N.len PySem.boot_len (pa_cons (pv 1) pa_nil)) pa_nil))) (fun _ _ => rfl))), ?_⟩
    refine ⟨_, rfl, _, rfl, _, rfl, a, xs, rfl, .inl ha, d, sc, xs.length, ns, rfl, D, List.length_pos_iff.mpr hne, fun r H1 hr1 D1 s1 => ?_⟩
    have e : xs[r]? = some xs[r] := by simp [hr1]
    exact ⟨a, _, _, _, rfl, rfl, s1.seq nad ha, atI_nat e, k r _ H1 e D1 s1⟩
theorem ok_pickT {f fT : Addr} {fd fdT : FuncData} (F : Fun K "_law_pick" "_law_pick" sLPick f fd) (N : NoG mg) (FT : Cal P w K mg base CX0 2 "_law_take" fT fdT ["_law_draw", "_law_many"] (spTake K)) : FnOk P w K mg base CX0 3 f fd ["_law_draw", "_law_items"] (spPickT K) := by
  refine F.ok scPick (fun vs H Q E h => ?_) (fun cdv A outer s H vs Q E hr h => ?_)
  · obtain ⟨d, sc, a, xs, ns, rfl, _⟩ := h
    rfl
  · obtain ⟨d, sc, a, xs, ns, rfl, D, ha, hne, k⟩ := h
    have nad : a ≠ d := by
      obtain ⟨j, n, hd, _⟩ := id D
      exact ne_of ha hd (by intro z; cases z)
    refine ⟨_, pss_one (ps_ret (pe_ix ix_tup (pv 1) (pe_call FT.ok hr (by rfl) FT.g FT.kp FT.b .nil pass0 (pa_cons (pv 0) (pa_cons (pe_callB call_len_seq (by rfl) N.len PySem.boot_len (pa_cons (pv 1) pa_nil)) pa_nil))) (fun _ _ => rfl))), ?_⟩
    refine ⟨_, rfl, _, rfl, _, rfl, a, xs, rfl, .inr (.of ha), d, sc, xs.length, ns, rfl, D, List.length_pos_iff.mpr hne, fun r H1 hr1 D1 s1 => ?_⟩
    have e : xs[r]? = some xs[r] := by simp [hr1]
    exact ⟨a, _, _, _, rfl, rfl, .of (s1 _ _ nad ha), atI_nat e, k r _ H1 e D1 s1⟩
/-! ### _law_row -/
def spRow (K : PySem.W.Frag) : Sp := fun vs H Q _ => ∃ (d sc : Addr) (n m : Nat) (ns : List Int), vs = [.ref d, .int n, .int m] ∧ Drw K H d sc ns ∧ n ≤ 900 ∧
  ∀ (xs : List Int) (l : Addr) (H' : Hp), xs.length = n → (∀ x ∈ xs, 0 ≤ x ∧ x ≤ (m : Int)) → H' l = some (.lst (iV xs)) → Drw K H' d sc ns → SmD d H H' → Q (.ref l) H'
theorem scRow : FnScope ["_law_draw", "_law_many", "_law_most", "_law_turn"] ["_law_draw", "_law_many", "_law_most"] (defScope sLRow) := ⟨rfl, rfl, rfl, by decide +kernel, rfl, by decide +kernel, by decide +kernel⟩
theorem ok_row {f fT : Addr} {fd fdT : FuncData} (F : Fun K "_law_row" "_law_row" sLRow f fd) (N : NoG mg) (FT : Cal P w K mg base CX0 2 "_law_take" fT fdT ["_law_draw", "_law_many"] (spTake K)) : FnOk P w K mg base CX0 3 f fd ["_law_draw", "_law_many", "_law_most"] (spRow K) := by
  refine F.ok scRow (fun vs H Q E h => ?_) (fun cdv A outer s H vs Q E hr h => ?_)
  · obtain ⟨d, sc, n, m, ns, rfl, _⟩ := h
    rfl
  · obtain ⟨d, sc, n, m, ns, rfl, D, hn, k⟩ := h
    refine ⟨_, pss_one (ps_ret (pe_lc (own := [("_law_turn", 3)]) (g := gName 3) (tt := tYes) rfl scRow.nd (pi_range1 (by rfl) N.range (pa_cons (pv 1) pa_nil)) (blkOk_by (N := ["_law_draw", "_law_many", "_law_most", "_law_turn"]) (sc := defScope sLRow) (by decide +kernel)) (fun _ _ _ _ _ => pg_name (i := 3) scRow.nd rfl (Or.inl rfl)) (fun _ _ _ _ _ => pts_nil)
      (fun _ _ _ _ _ => pe_call FT.ok hr (by rfl) FT.g FT.kp FT.b .nil pass0 (pa_cons (pv 0) (pa_cons (pe_op op_add (pv 2) pe_int) pa_nil))))), ?_⟩
    refine ⟨_, rfl, _, rfl, by omega, by omega, fun L hL => ?_⟩
    have nL := D.ne hL
    refine lc_range (lo := 0) (n := n) (fun i H' => Drw K H' d sc ns ∧ SmD d H H' ∧ ∃ xs : List Int, xs.length = i ∧ (∀ x ∈ xs, 0 ≤ x ∧ x ≤ (m : Int)) ∧ H' L = some (.lst (iV xs)))
      ⟨D.sm (same_upd (Same.refl _) hL), SmD.of (same_upd (Same.refl _) hL), [], rfl, (fun x hx => by cases hx), upd_same⟩ (fun i H1 hi h => ?_) (fun H1 h => ?_)
    · obtain ⟨D1, s1, xs, hl, hx, hL1⟩ := h
      refine ⟨rfl, ?_⟩
      refine yes_of ?_
      refine ⟨_, rfl, _, rfl, _, _, rfl, rfl, d, sc, m + 1, ns, by simp, D1, by omega, fun r H2 hr2 D2 s2 => ?_⟩
      have hL2 := s2 _ _ nL hL1
      refine ⟨_, hL2, small1000 (by simp; omega), ⟨D.put D2 (s1.trans s2) hL, smd_upd (s1.trans s2) hL, xs ++ [(r : Int)], by simp [hl], fun x hx2 => ?_, by rw [upd_same]; simp⟩⟩
      rcases List.mem_append.mp hx2 with z | z
      · exact hx x z
      · have e : x = (r : Int) := by simpa using z
        subst e
        omega
    · obtain ⟨D1, s1, xs, hl, hx, hL1⟩ := h
      exact k xs L H1 hl hx hL1 D1 s1
end
end R49
set_option maxHeartbeats 4000000
/-! the law's draws: letters, steps, reader -/
namespace R49
open PySem PySem.Spec PyProof.Rows L2
/-- the letters that the law draws -/
structure LsOk (ls : List Str) : Prop where
  ok : LetOk ls
  nd : ls.Nodup
  z : ("z" : Str) ∉ ls
  len : ls.length ≤ 3
def lsB (ls : List Str) : Bool := letB ls && decide ls.Nodup && decide (("z" : Str) ∉ ls) && decide (ls.length ≤ 3)
theorem ls_of {ls : List Str} (h : lsB ls = true) : LsOk ls := by
  unfold lsB at h
  simp only [Bool.and_eq_true, decide_eq_true_eq] at h
  exact ⟨let_of h.1.1.1, h.1.1.2, h.1.2, h.2⟩
def fulls : List (List Str) := [["a", "b", "c"], ["a", "ab", "b"], ["aa", "b", "ba"]]
theorem fulls_ok : (fulls.all fun f => lsB (f.take 2) && lsB (f.take 3)) = true := by decide +kernel
theorem word_no : WordOk "no" := word_of (by decide +kernel)
theorem word_yes : WordOk "yes" := word_of (by decide +kernel)
section
variable {P : Program} {w : World} {K : PySem.W.Frag} {mg : Str → Option Value} {base : Heap}
/-! ### _law_letters -/
def spLL (K : PySem.W.Frag) : Sp := fun vs H Q _ => ∃ (d sc : Addr) (ns : List Int), vs = [.ref d] ∧ Drw K H d sc ns ∧ ∀ (ls : List Str) (a : Addr) (H' : Hp), LsOk ls → H' a = some (.tup (sV ls)) → Drw K H' d sc ns → SmD d H H' → Q (.ref a) H'
theorem scLL : FnScope ["_law_draw"] ["_law_draw"] (defScope sLLetters) := ⟨rfl, rfl, rfl, by decide +kernel, rfl, by decide +kernel, by decide +kernel⟩
theorem ok_ll {f fP fT : Addr} {fd fdP fdT : FuncData} (F : Fun K "_law_letters" "_law_letters" sLLetters f fd) (FP : Cal P w K mg base CX0 3 "_law_pick" fP fdP ["_law_draw", "_law_items"] (spPickL K)) (FT : Cal P w K mg base CX0 2 "_law_take" fT fdT ["_law_draw", "_law_many"] (spTake K)) :
    FnOk P w K mg base CX0 4 f fd ["_law_draw"] (spLL K) := by
  refine F.ok scLL (fun vs H Q E h => ?_) (fun cdv A outer s H vs Q E hr h => ?_)
  · obtain ⟨d, sc, ns, rfl, _⟩ := h
    rfl
  · obtain ⟨d, sc, ns, rfl, D, k⟩ := h
    have tri : ∀ {a b c : Str} {es : List Expr}, True := fun {_ _ _ _} => True.intro
    refine ⟨_, pss_one (ps_ret (pe_slice sl_tupA (pe_call FP.ok hr (by rfl) FP.g FP.kp FP.b .nil pass0 (pa_cons (pv 0) (pa_cons (pe_lst (pa_cons (pe_tup (pa_cons pe_str (pa_cons pe_str (pa_cons pe_str pa_nil)))) (pa_cons (pe_tup (pa_cons pe_str (pa_cons pe_str (pa_cons pe_str pa_nil)))) (pa_cons (pe_tup (pa_cons pe_str (pa_cons pe_str (pa_cons pe_str pa_nil)))) pa_nil)))) pa_nil)))
      po_none (po_some (pe_op op_add pe_int (pe_call FT.ok (hr.mono (by decide)) (by rfl) FT.g FT.kp FT.b .nil pass0 (pa_cons (pv 0) (pa_cons pe_int pa_nil))))))), ?_⟩
    refine ⟨_, rfl, (by show 3 ≤ sizeLine; decide), fun t1 h1 => ⟨(by show 3 ≤ sizeLine; decide), fun t2 h2 => ⟨(by show 3 ≤ sizeLine; decide), fun t3 h3 => ⟨(by show 3 ≤ sizeLine; decide), fun l hl => ?_⟩⟩⟩⟩
    have s1 : Same H (upd H t1 (.tup (sV ["a", "b", "c"]))) := same_upd (Same.refl _) h1
    have s2 : Same (upd H t1 (.tup (sV ["a", "b", "c"]))) (upd (upd H t1 (.tup (sV ["a", "b", "c"]))) t2 (.tup (sV ["a", "ab", "b"]))) := same_upd (Same.refl _) h2
    have s3 : Same (upd (upd H t1 (.tup (sV ["a", "b", "c"]))) t2 (.tup (sV ["a", "ab", "b"]))) (upd (upd (upd H t1 (.tup (sV ["a", "b", "c"]))) t2 (.tup (sV ["a", "ab", "b"]))) t3 (.tup (sV ["aa", "b", "ba"]))) := same_upd (Same.refl _) h3
    have s4 : Same (upd (upd (upd H t1 (.tup (sV ["a", "b", "c"]))) t2 (.tup (sV ["a", "ab", "b"]))) t3 (.tup (sV ["aa", "b", "ba"]))) (upd (upd (upd (upd H t1 (.tup (sV ["a", "b", "c"]))) t2 (.tup (sV ["a", "ab", "b"]))) t3 (.tup (sV ["aa", "b", "ba"]))) l (.lst [.ref t1, .ref t2, .ref t3])) := same_upd (Same.refl _) hl
    have sA := s1.trans (s2.trans (s3.trans s4))
    have e1 := s4 _ _ (s3 _ _ (s2 _ _ (show (upd H t1 (.tup (sV ["a", "b", "c"]))) t1 = some _ from upd_same)))
    have e2 := s4 _ _ (s3 _ _ (show (upd (upd H t1 (.tup (sV ["a", "b", "c"]))) t2 (.tup (sV ["a", "ab", "b"]))) t2 = some _ from upd_same))
    have e3 := s4 _ _ (show (upd (upd (upd H t1 (.tup (sV ["a", "b", "c"]))) t2 (.tup (sV ["a", "ab", "b"]))) t3 (.tup (sV ["aa", "b", "ba"]))) t3 = some _ from upd_same)
    have DA := D.sm sA
    have nld : l ≠ d := (D.sm (s1.trans (s2.trans s3))).ne hl
    refine ⟨d, sc, l, [.ref t1, .ref t2, .ref t3], ns, rfl, DA, .of upd_same, nld, (by simp), fun i x H5 hx D5 s5 => ?_⟩
    -- which of the three
    obtain ⟨full, t, ex, ht, hf⟩ : ∃ (full : List Str) (t : Addr), x = .ref t ∧ (upd (upd (upd (upd H t1 (.tup (sV ["a", "b", "c"]))) t2 (.tup (sV ["a", "ab", "b"]))) t3 (.tup (sV ["aa", "b", "ba"]))) l (.lst [.ref t1, .ref t2, .ref t3])) t = some (.tup (sV full)) ∧ full ∈ fulls := by
      match i, hx with
      | 0, hx => exact ⟨_, t1, (Option.some.inj hx).symm, e1, by simp [fulls]⟩
      | 1, hx => exact ⟨_, t2, (Option.some.inj hx).symm, e2, by simp [fulls]⟩
      | 2, hx => exact ⟨_, t3, (Option.some.inj hx).symm, e3, by simp [fulls]⟩
      | i + 3, hx => exact absurd hx (by simp)
    subst ex
    have hfo := List.all_eq_true.mp fulls_ok full hf
    simp only [Bool.and_eq_true] at hfo
    have fl : full.length = 3 := by
      simp [fulls] at hf
      rcases hf with z | z | z <;> rw [z] <;> rfl
    have ntd : t ≠ d := by
      obtain ⟨j, n, hd, _⟩ := id DA
      exact ne_of ht hd (by intro z; cases z)
    refine ⟨_, rfl, d, sc, 2, ns, rfl, D5, by decide, fun r H6 hr2 D6 s6 => ⟨_, _, rfl, rfl, _, rfl, ?_⟩⟩
    have e0 : (2 : Int) + (r : Int) = ((2 + r : Nat) : Int) := by omega
    have ht6 := s6 _ _ ntd (s5 _ _ ntd ht)
    have sm : SmD d H H6 := (SmD.of sA).trans (s5.trans s6)
    have hl3 : (sV full).length = 3 := by rw [List.length_map, fl]
    show rSlA K (.ref t) none (some ((2 : Int) + (r : Int))) H6 Q
    rw [e0]
    refine ⟨t, _, rfl, .of ht6, fun hw => ?_, fun hw p hp => ?_⟩
    · rw [HT.sIx_nat, hl3] at hw
      have er : r = 1 := by omega
      refine k full t H6 ?_ ht6 D6 sm
      have := ls_of hfo.2
      rwa [List.take_of_length_le (by omega)] at this
    · rw [HT.sIx_nat, HT.sIx_none, hl3] at hw
      have er : r = 0 := by
        rcases Nat.lt_or_ge r 1 with z | z
        · omega
        · exact absurd ⟨rfl, by omega⟩ hw
      subst er
      have np : p ≠ d := D6.ne hp
      refine k (full.take 2) p _ (ls_of hfo.1) ?_ (D.put D6 sm (sm.free np hp)) (smd_upd sm (sm.free np hp))
      rw [upd_same]
      show some (HO.tup (cutV (sV full) none (some ((2 + 0 : Nat) : Int)))) = _
      rw [cut_lo (by omega)]
      simp [sV]
end
end R49
set_option maxHeartbeats 4000000
/-! the law's draws: steps, reader -/
namespace R49
open PySem PySem.Spec PyProof.Rows L2
theorem kvOf_congr {ls : List Str} {g g' : Str → Nat} (h : ∀ l ∈ ls, g l = g' l) : kvOf ls g = kvOf ls g' := by
  unfold kvOf
  exact List.map_congr_left fun l hl => by rw [h l hl]
theorem kvOf_snoc' {ls : List Str} {g : Str → Nat} {i r : Nat} {l : Str} (nd : ls.Nodup) (h : ls[i]? = some l) : putK (kvOf (ls.take i) g) (Sum.inr l : Key) (.int (r : Nat)) = kvOf (ls.take (i + 1)) (fun x => if x = l then r else g x) := by
  have hno : l ∉ ls.take i := fun hx => by
    obtain ⟨j, hj, hje⟩ := List.mem_iff_getElem.mp hx
    have hji : j < i := by
      rw [List.length_take] at hj
      omega
    have h2 : ls[j]? = some l := by
      rw [← hje, List.getElem_take]
      simp
    exact absurd (nd_ix nd h2 h) (by omega)
  have e1 : kvOf (ls.take i) g = kvOf (ls.take i) (fun x => if x = l then r else g x) := kvOf_congr fun x hx => by
    have hne : ¬ x = l := fun z => by
      rw [z] at hx
      exact hno hx
    show g x = if x = l then r else g x
    rw [if_neg hne]
  rw [e1]
  have e2 := kvOf_snoc (g := fun x => if x = l then r else g x) nd h
  rw [← e2]
  simp
section
variable {P : Program} {w : World} {K : PySem.W.Frag} {mg : Str → Option Value} {base : Heap}
def spLSteps (K : PySem.W.Frag) : Sp := fun vs H Q _ => ∃ (d sc la : Addr) (m : Nat) (ls : List Str) (ns : List Int), vs = [.ref d, .ref la, .int m] ∧ Drw K H d sc ns ∧ H la = some (.tup (sV ls)) ∧ ls.Nodup ∧ ls.length ≤ 3 ∧ 1 ≤ m ∧ m ≤ 900 ∧
  ∀ (gs : List (Str → Nat)) (sa : Addr) (H' : Hp), gs.length = m → StOk ls gs → RowsAt H' sa ls gs → Drw K H' d sc ns → SmD d H H' → sa ≠ d → H sa = none → Q (.ref sa) H'
theorem scLSteps : FnScope ["_law_draw", "_law_letters_here", "_law_many", "_law_found", "_law_state", "_law_row_here", "_law_letter"] ["_law_draw", "_law_letters_here", "_law_many"] (defScope sLSteps) := ⟨rfl, rfl, rfl, by decide +kernel, rfl, by decide +kernel, by decide +kernel⟩
theorem ok_lsteps {f fT : Addr} {fd fdT : FuncData} (F : Fun K "_law_steps" "_law_steps" sLSteps f fd) (N : NoG mg) (FT : Cal P w K mg base CX0 2 "_law_take" fT fdT ["_law_draw", "_law_many"] (spTake K)) :
    FnOk P w K mg base CX0 3 f fd ["_law_draw", "_law_letters_here", "_law_many"] (spLSteps K) := by
  refine F.ok scLSteps (fun vs H Q E h => ?_) (fun cdv A outer s H vs Q E hr h => ?_)
  · obtain ⟨d, sc, la, m, ls, ns, rfl, _⟩ := h
    rfl
  · obtain ⟨d, sc, la, m, ls, ns, rfl, D, hla, nd, hl3, m1, m2, k⟩ := h
    have hu := hu_of hr
    refine ⟨_, pss_cons (ps_set (i := 3) scLSteps.nd rfl (Or.inl rfl) (pe_lst pa_nil))
      (pss_cons (ps_for PassesOwn.never rfl (pi_range1 (by rfl) N.range (pa_cons (pv 2) pa_nil)) (pg_name (i := 4) scLSteps.nd rfl (Or.inl rfl))
        (pss_cons (ps_set (i := 5) scLSteps.nd rfl (Or.inl rfl) pe_dnewK)
        (pss_cons (ps_for PassesOwn.never rfl (pi_tup (pv 1)) (pg_name (i := 6) scLSteps.nd rfl (Or.inl rfl))
          (pss_one (ps_dput hu (pv 5) (pv 6) (pe_call FT.ok hr (by rfl) FT.g FT.kp FT.b .nil pass0 (pa_cons (pv 0) (pa_cons (pv 2) pa_nil))) rfl)))
        (pss_one (ps_expr (pe_bm PySem.F.plainAttrs_list PySem.F.slot_list_append PySem.F.type_list_append mt_append (pv 3) (pa_cons (pv 5) pa_nil)))))))
      (pss_one (ps_ret (pv 3)))), ?_⟩
    refine ⟨by show 0 ≤ sizeLine; omega, fun z hz => ?_⟩
    have nzd : z ≠ d := D.ne hz
    have s0 : Same H (upd H z (.lst [])) := same_upd (Same.refl _) hz
    have nlad : la ≠ d := by
      obtain ⟨j, n, hd, _⟩ := id D
      exact ne_of hla hd (by intro z; cases z)
    refine ⟨_, rfl, _, rfl, by omega, by omega, ?_⟩
    refine for_range (lo := 0) (n := m) (fun i σ H' => ∃ t u v, σ = [some (.ref d), some (.ref la), some (.int m), some (.ref z), t, u, v] ∧ Drw K H' d sc ns ∧ SmD d H H' ∧ ∃ (gs : List (Str → Nat)) (qs : List Addr), gs.length = i ∧ qs.length = i ∧ H' z = some (.lst (qs.map V.ref)) ∧
        (∀ g ∈ gs, ∀ l ∈ ls, g l < m) ∧ ∀ (j : Nat) (q : Addr) (g : Str → Nat), qs[j]? = some q → gs[j]? = some g → H' q = some (.dK (kvOf ls g)))
      ⟨none, none, none, rfl, D.sm s0, SmD.of s0, [], [], rfl, rfl, upd_same, (fun g hg => by cases hg), (fun j q g e => by simp at e)⟩ ?_ ?_
    · rintro i σ H1 hi ⟨t, u, v, rfl, D1, s1, gs, qs, hgl, hql, hz1, hlt, hrows⟩
      -- row = {}
      intro q hq
      have nqd : q ≠ d := D1.ne hq
      have sq : Same H1 (upd H1 q (.dK [])) := same_upd (Same.refl _) hq
      have hla1 := s1 _ _ nlad hla
      refine ⟨_, rfl, la, rfl, ⟨_, .of (sq _ _ hla1)⟩, for_tup (K := K) (a := la) (xs := sV ls) (fun j σ H' => ∃ v, σ = [some (.ref d), some (.ref la), some (.int m), some (.ref z), some (.int (0 + (i : Int))), some (.ref q), v] ∧ Drw K H' d sc ns ∧ SmD d H1 H' ∧ ∃ g : Str → Nat, (∀ l ∈ ls.take j, g l < m) ∧ H' q = some (.dK (kvOf (ls.take j) g)))
        ⟨_, rfl, D1.sm sq, SmD.of sq, fun _ => 0, (fun l hl => by simp at hl), upd_same⟩ (fun j σ H' _ ⟨_, _, _, s2, _⟩ => .of (s2 _ _ nlad hla1)) ?_ ?_⟩
      · rintro j x σ H2 hx ⟨v2, rfl, D2, s2, g, hg, hq2⟩
        obtain ⟨l, hl, rfl⟩ := sV_get hx
        refine ⟨_, rfl, _, rfl, d, sc, m, ns, rfl, D2, by omega, fun r H3 hr3 D3 s3 => ?_⟩
        have hq3 := s3 _ _ nqd hq2
        refine ⟨_, rfl, _, rfl, q, _, rfl, DPut.k (k := Sum.inr l) hq3 (small1000 (by unfold kvOf; simp; omega)), ?_⟩
        refine ⟨some (.str l), rfl, D1.put D3 (s2.trans s3) hq, smd_upd (s2.trans s3) hq, fun x => if x = l then r else g x, fun x hx2 => ?_, ?_⟩
        · rw [← take_up hl] at hx2
          rcases List.mem_append.mp hx2 with y | y
          · show (if x = l then r else g x) < m
            split
            · exact hr3
            · exact hg x y
          · have e : x = l := by simpa using y
            show (if x = l then r else g x) < m
            rw [if_pos e]
            exact hr3
        · rw [upd_same, kvOf_snoc' nd hl]
      · rintro σ H2 ⟨v2, rfl, D2, s2, g, hg, hq2⟩
        rw [List.length_map, List.take_length] at hq2
        rw [List.length_map, List.take_length] at hg
        have hz2 := s2 _ _ nzd hz1
        refine ⟨_, rfl, .inl ⟨rfl, _, SqL.of hz2⟩, _, rfl, z, _, _, rfl, rfl, hz2, small1000 (by simp; omega), ?_⟩
        have s12 := s1.trans s2
        refine ⟨_, _, _, rfl, D.put D2 s12 hz, smd_upd s12 hz, gs ++ [g], qs ++ [q], by simp [hgl], by simp [hql], by rw [upd_same]; simp, fun g' hg' l hl => ?_, fun j q' g' e1 e2 => ?_⟩
        · rcases List.mem_append.mp hg' with y | y
          · exact hlt g' y l hl
          · have e : g' = g := by simpa using y
            rw [e]
            exact hg l hl
        · have nz : ∀ {q' : Addr} {kv : List (Key × V)}, H2 q' = some (.dK kv) → (upd H2 z (.lst (qs.map V.ref ++ [.ref q]))) q' = some (.dK kv) := fun {q' kv} e => by
            rw [upd_ne (ne_of e hz2 (by intro z; cases z))]
            exact e
          by_cases c : j < qs.length
          · rw [List.getElem?_append_left c] at e1
            rw [List.getElem?_append_left (by omega)] at e2
            have hq' := hrows j q' g' e1 e2
            have nqd' : q' ≠ d := by
              obtain ⟨jj, n, hd, _⟩ := id D1
              exact ne_of hq' hd (by intro z; cases z)
            exact nz (s2 _ _ nqd' hq')
          · have ej : j = qs.length := by
              have := (List.getElem?_eq_some_iff.mp e1).1
              rw [List.length_append] at this
              simp at this
              omega
            subst ej
            have e3 : q = q' := by simpa using e1
            have e4 : g = g' := by
              rw [show qs.length = gs.length by omega] at e2
              simpa using e2
            subst e3 e4
            exact nz hq2
    · rintro σ H1 ⟨t, u, v, rfl, D1, s1, gs, qs, hgl, hql, hz1, hlt, hrows⟩
      exact ⟨_, rfl, k gs z H1 hgl ⟨by omega, by omega, fun g hg l hl => by rw [hgl]; exact hlt g hg l hl, by omega⟩ ⟨qs, hz1, by omega, hrows⟩ D1 s1 nzd hz⟩
end
end R49
set_option maxHeartbeats 4000000
/-! the law's reader; its lines -/
namespace R49
open PySem PySem.Spec PyProof.Rows L2
section
variable {P : Program} {w : World} {K : PySem.W.Frag} {mg : Str → Option Value} {base : Heap} {C : Addr}
/-! ### _law_reader -/
def spLReader (K : PySem.W.Frag) : Sp := fun vs H Q _ => ∃ (d sc la : Addr) (ls : List Str) (ns : List Int), vs = [.ref d, .ref la] ∧ Drw K H d sc ns ∧ H la = some (.tup (sV ls)) ∧ ls.Nodup ∧ ls.length ≤ 3 ∧
  ∀ (gs : List (Str → Nat)) (ans : List Str) (t sa aa : Addr) (H' : Hp), StOk ls gs → gs.length ≤ 5 → ans.length = gs.length → (∀ x ∈ ans, WordOk x) → H' t = some (.tup [.ref sa, .ref aa]) → RowsAt H' sa ls gs → H' aa = some (.lst (sV ans)) → sa ≠ d → aa ≠ d → Drw K H' d sc ns → SmD d H H' → Q (.ref t) H'
theorem scLReader : FnScope ["_law_draw", "_law_letters_here", "_law_many", "_law_state"] ["_law_draw", "_law_letters_here"] (defScope sLReader) := ⟨rfl, rfl, rfl, by decide +kernel, rfl, by decide +kernel, by decide +kernel⟩
theorem ok_lreader {f fT fS fP : Addr} {fd fdT fdS fdP : FuncData} (F : Fun K "_law_reader" "_law_reader" sLReader f fd) (N : NoG mg) (FT : Cal P w K mg base CX0 2 "_law_take" fT fdT ["_law_draw", "_law_many"] (spTake K))
    (FS : Cal P w K mg base CX0 3 "_law_steps" fS fdS ["_law_draw", "_law_letters_here", "_law_many"] (spLSteps K)) (FP : Cal P w K mg base CX0 3 "_law_pick" fP fdP ["_law_draw", "_law_items"] (spPickL K)) :
    FnOk P w K mg base CX0 4 f fd ["_law_draw", "_law_letters_here"] (spLReader K) := by
  refine F.ok scLReader (fun vs H Q E h => ?_) (fun cdv A outer s H vs Q E hr h => ?_)
  · obtain ⟨d, sc, la, ls, ns, rfl, _⟩ := h
    rfl
  · obtain ⟨d, sc, la, ls, ns, rfl, D, hla, nd, hl3, k⟩ := h
    refine ⟨_, pss_cons (ps_set (i := 2) scLReader.nd rfl (Or.inl rfl) (pe_op op_add pe_int (pe_call FT.ok (hr.mono (by decide)) (by rfl) FT.g FT.kp FT.b .nil pass0 (pa_cons (pv 0) (pa_cons pe_int pa_nil)))))
      (pss_one (ps_ret (pe_tup (pa_cons (pe_call FS.ok hr (by rfl) FS.g FS.kp FS.b .nil pass0 (pa_cons (pv 0) (pa_cons (pv 1) (pa_cons (pv 2) pa_nil))))
        (pa_cons (pe_lc (own := [("_law_state", 3)]) (g := gName 3) (tt := tYes) rfl scLReader.nd (pi_range1 (by rfl) N.range (pa_cons (pv 2) pa_nil)) (blkOk_by (N := ["_law_draw", "_law_letters_here", "_law_many", "_law_state"]) (sc := defScope sLReader) (by decide +kernel)) (fun _ _ _ _ _ => pg_name (i := 3) scLReader.nd rfl (Or.inl rfl)) (fun _ _ _ _ _ => pts_nil)
          (fun _ _ _ _ _ => pe_call FP.ok hr (by rfl) FP.g FP.kp FP.b .nil pass0 (pa_cons (pv 0) (pa_cons (pe_lst (pa_cons pe_str (pa_cons pe_str (pa_cons pe_str pa_nil)))) pa_nil)))) pa_nil))))), ?_⟩
    refine ⟨_, rfl, d, sc, 5, ns, rfl, D, by decide, fun r H1 hr1 D1 s1 => ⟨_, _, rfl, rfl, ?_⟩⟩
    have nlad : la ≠ d := by
      obtain ⟨j, n, hd, _⟩ := id D
      exact ne_of hla hd (by intro z; cases z)
    refine ⟨_, rfl, _, rfl, _, rfl, d, sc, la, 1 + r, ls, ns, by simp, D1, s1 _ _ nlad hla, nd, hl3, by omega, by omega, fun gs sa H2 hgl S R D2 s2 nsa hsan => ?_⟩
    have e1 : (1 : Int) + (r : Int) = ((1 + r : Nat) : Int) := by omega
    refine ⟨_, rfl, _, rfl, by omega, by omega, fun L hL => ?_⟩
    have en : ((1 : Int) + (r : Int)).toNat = 1 + r := by omega
    show ∃ W : Nat → Nat → Hp → Prop, _
    have nL := D2.ne hL
    have s12 := s1.trans s2
    have goal := lc_range (g := gName 3) (tt := tYes) (te := tCall (spPickL K) [] E0 (tCons (tVar 0) (tCons (tLst (tCons (tC (.str "no")) (tCons (tC (.str "yes")) (tCons (tC (.str "no")) tNil)))) tNil))) (vs := [3]) (σ := [some (V.ref d), some (V.ref la), some (V.int (1 + r)), none]) (H1 := H2) (D := L)
      (Qd := fun H' => tNil [some (V.ref d), some (V.ref la), some (V.int (1 + r)), none] H' fun xs H3 => (V.ref sa :: V.ref L :: xs).length ≤ sizeLine ∧ ∀ p, H3 p = none → Q (.ref p) (upd H3 p (.tup (V.ref sa :: V.ref L :: xs)))) (lo := 0) (n := 1 + r)
      (fun i H' => Drw K H' d sc ns ∧ SmD d H2 H' ∧ ∃ ans : List Str, ans.length = i ∧ (∀ x ∈ ans, WordOk x) ∧ H' L = some (.lst (sV ans)))
      ⟨D2.sm (same_upd (Same.refl _) hL), SmD.of (same_upd (Same.refl _) hL), [], rfl, (fun x hx => by cases hx), upd_same⟩ (fun i H3 hi h => ?_) (fun H3 h => ?_)
    · rw [← en] at goal
      exact goal
    · obtain ⟨D3, s3, ans, hal, haw, hL3⟩ := h
      refine ⟨rfl, ?_⟩
      refine yes_of ?_
      refine ⟨_, rfl, (by show 3 ≤ sizeLine; decide), fun a ha => ?_⟩
      have sa3 : Same H3 (upd H3 a (.lst (sV ["no", "yes", "no"]))) := same_upd (Same.refl _) ha
      refine ⟨d, sc, a, sV ["no", "yes", "no"], ns, rfl, D3.sm sa3, .of upd_same, D3.ne ha, by simp [sV], fun j x H4 hx D4 s4 => ?_⟩
      obtain ⟨y, hy, rfl⟩ := sV_get hx
      have hw : WordOk y := by
        have hm := List.mem_of_getElem? hy
        simp at hm
        rcases hm with z | z | z <;> rw [z] <;> first | exact word_no | exact word_yes
      have s34 := s3.trans ((SmD.of sa3).trans s4)
      have hL4 := s4 _ _ nL (sa3 _ _ hL3)
      refine ⟨_, hL4, small1000 (by simp; omega), D2.put D4 s34 hL, smd_upd s34 hL, ans ++ [y], by simp [hal], fun x hx2 => ?_, by rw [upd_same]; simp [sV]⟩
      rcases List.mem_append.mp hx2 with z | z
      · exact haw x z
      · have e : x = y := by simpa using z
        rw [e]
        exact hw
    · obtain ⟨D3, s3, ans, hal, haw, hL3⟩ := h
      refine ⟨by show 2 ≤ sizeLine; decide, fun p hp => ?_⟩
      have sp3 : Same H3 (upd H3 p (.tup [.ref sa, .ref L])) := same_upd (Same.refl _) hp
      obtain ⟨qs, q1, q2, q3⟩ := R
      have nrd : ∀ (i : Nat) (q : Addr) (g : Str → Nat), qs[i]? = some q → gs[i]? = some g → q ≠ d := fun i q g e1 e2 => by
        obtain ⟨j, n, hd, _⟩ := id D2
        exact ne_of (q3 i q g e1 e2) hd (by intro z; cases z)
      refine k gs ans p sa L _ S (by omega) (by omega) haw upd_same ⟨qs, sp3 _ _ (s3 _ _ nsa q1), q2, fun i q g e1 e2 => sp3 _ _ (s3 _ _ (nrd i q g e1 e2) (q3 i q g e1 e2))⟩ (sp3 _ _ hL3) nsa nL (D3.sm sp3) ((s12.trans s3).trans (SmD.of sp3))
/-! ### _law_wide -/
def spWide : Sp := fun vs H Q _ => ∃ (a : Int) (p : Nat), vs = [.int a, .int p] ∧ 0 ≤ a ∧ a < 200 ∧ 5 ≤ p ∧ p ≤ 7 ∧ Q (.str (wideT a p)) H
theorem scWide : FnScope ["_law_number_here", "_law_places", "_law_told"] ["_law_number_here", "_law_places"] (defScope sLWide) := ⟨rfl, rfl, rfl, by decide +kernel, rfl, by decide +kernel, by decide +kernel⟩
theorem ok_wide {f : Addr} {fd : FuncData} (F : Fun K "_law_wide" "_law_wide" sLWide f fd) (N : NoG mg) : FnOk P w K mg base CX0 1 f fd ["_law_number_here", "_law_places"] spWide := by
  refine F.ok scWide (fun vs H Q E h => ?_) (fun cdv A outer s H vs Q E hr h => ?_)
  · obtain ⟨a, p, rfl, _⟩ := h
    rfl
  · obtain ⟨a, p, rfl, h0, h1, p5, p7, k⟩ := h
    have W := wide_ok h0 h1
    have hl := W.l
    refine ⟨_, pss_cons (ps_set (i := 2) scWide.nd rfl (Or.inl rfl) (pe_callTy call_str_int (by rfl) N.str PyProof.Rows.boot_str (pa_cons (pv 0) pa_nil)))
      (pss_one (ps_ret (pe_op op_add_str (pe_op op_mulS pe_str (pe_op op_sub (pv 1) (pe_callB call_len_str (by rfl) N.len PySem.boot_len (pa_cons (pv 2) pa_nil)))) (pv 2)))), ?_⟩
    refine ⟨_, rfl, a, rfl, log2_small h0 h1, ?_⟩
    refine ⟨_, rfl, _, rfl, _, rfl, by rw [sizeLine_eq]; omega, _, _, rfl, rfl, _, _, rfl, rfl, mulOk_blank (by omega) (by omega), _, rfl, _, _, rfl, rfl, ?_, k⟩
    have hw : (wideT a p).length ≤ 7 := by
      rcases show p = 5 ∨ p = 6 ∨ p = 7 by omega with z | z | z <;> subst z
      · exact W.l5
      · exact W.l6
      · exact W.l7
    have hw2 : (Txt.mul " " ((p : Int) - ((toString a : Str).length : Int))).length + (toString a : Str).length = (wideT a p).length := by
      unfold wideT
      rw [PySem.Str.length_append]
    rw [sizeLine_eq]
    show (Txt.mul " " ((p : Int) - ((toString a : Str).length : Int))).length + (toString a : Str).length ≤ _
    omega
end
end R49
set_option maxHeartbeats 4000000
/-! the law's own lines -/
namespace R49
open PySem PySem.Spec PyProof.Rows L2
section
variable {P : Program} {w : World} {K : PySem.W.Frag} {mg : Str → Option Value} {base : Heap} {C : Addr}
def spLLines (C : Addr) : Sp := fun vs H Q _ => ∃ (p q : Addr) (f n : Nat) (f1 p1 f2 p2 : List Int), vs = [.ref p, .ref q, .int f, .int n] ∧ n + f ≤ 100 ∧ TimesAt C H p f1 p1 ∧ TimesAt C H q f2 p2 ∧ p1 ≠ [] ∧ p2 ≠ [] ∧ LineOk f1 p1 f2 p2 (f + n) ∧
  ∀ (H' : Hp) (l : Addr), Same H H' → H' l = some (.lst ((List.range n).map fun i => V.str (lineT f1 p1 f2 p2 (f + i)))) → Q (.ref l) H'
theorem scLLines : FnScope ["_law_fed", "_law_read", "_law_first", "_law_many", "_law_found", "_law_last", "_law_tick", "_law_lag", "_law_mark"] ["_law_fed", "_law_read", "_law_first", "_law_many"] (defScope sLLines) := ⟨rfl, rfl, rfl, by decide +kernel, rfl, by decide +kernel, by decide +kernel⟩
theorem ok_llines {f fA fW : Addr} {fd fdA fdW : FuncData} (F : Fun K "_law_lines" "_law_lines" sLLines f fd) (N : NoG mg) (T : TmT K mg C) (FA : CalM P w K mg base CX0 2 C "at" fA fdA ["self", "tick"] (spTmAt C)) (FW : Cal P w K mg base CX0 1 "_law_wide" fW fdW ["_law_number_here", "_law_places"] spWide) :
    FnOk P w K mg base CX0 3 f fd ["_law_fed", "_law_read", "_law_first", "_law_many"] (spLLines C) := by
  refine F.ok scLLines (fun vs H Q E h => ?_) (fun cdv A outer s H vs Q E hr h => ?_)
  · obtain ⟨p, q, f, n, f1, p1, f2, p2, rfl, _⟩ := h
    rfl
  · obtain ⟨p, q, f, n, f1, p1, f2, p2, rfl, hn, hp, hq, n1, n2, hok, k⟩ := h
    have hr1 : Room 1 _ := hr.mono (by decide)
    refine ⟨_, pss_cons (ps_par (i := 4) (j := 5) rfl scLLines.nd rfl rfl (by decide) rfl rfl (pa_cons (pe_lst pa_nil) (pa_cons pe_int pa_nil)) rfl)
      (pss_cons (ps_for PassesOwn.never rfl (pi_range1 (by rfl) N.range (pa_cons (pe_op op_add (pv 2) (pv 3)) pa_nil)) (pg_name (i := 6) scLLines.nd rfl (Or.inl rfl))
        (pss_cons (ps_set (i := 7) scLLines.nd rfl (Or.inl rfl) (pe_callB (call_max2 rfl) (by rfl) N.max PyProof.Rows.boot_max (pa_cons pe_int (pa_cons
          (pe_op op_sub (pe_op op_add (pv 5) (pe_meth (pv 0) T.cl FA.m FA.ok hr FA.b .nil pass0 (pa_cons (pv 6) pa_nil))) (pe_meth (pv 1) T.cl FA.m FA.ok hr FA.b .nil pass0 (pa_cons (pv 6) pa_nil))) pa_nil))))
        (pss_cons (ps_set (i := 8) scLLines.nd rfl (Or.inl rfl) (pe_ifExp (pt_cmpR op_gt (pv 7) (pv 5) (nomark _)) pe_str pe_str))
        (pss_cons (ps_if (pt_cmpR op_ge (pv 6) (pv 2) (nomark _)) (pss_one (ps_expr (pe_bm PySem.F.plainAttrs_list PySem.F.slot_list_append PySem.F.type_list_append mt_append (pv 4) (pa_cons
            (pe_op op_add_str (pe_op op_add_str (pe_op op_add_str (pe_op op_add_str (pe_op op_add_str
              (pe_call FW.ok hr1 (by rfl) FW.g FW.kp FW.b .nil pass0 (pa_cons (pv 6) (pa_cons pe_int pa_nil)))
              (pe_call FW.ok hr1 (by rfl) FW.g FW.kp FW.b .nil pass0 (pa_cons (pe_meth (pv 0) T.cl FA.m FA.ok hr FA.b .nil pass0 (pa_cons (pv 6) pa_nil)) (pa_cons pe_int pa_nil))))
              (pe_call FW.ok hr1 (by rfl) FW.g FW.kp FW.b .nil pass0 (pa_cons (pe_meth (pv 1) T.cl FA.m FA.ok hr FA.b .nil pass0 (pa_cons (pv 6) pa_nil)) (pa_cons pe_int pa_nil))))
              (pe_call FW.ok hr1 (by rfl) FW.g FW.kp FW.b .nil pass0 (pa_cons (pv 7) (pa_cons pe_int pa_nil))))
              pe_str) (pv 8)) pa_nil)))) pss_nil)
        (pss_one (ps_set (i := 5) scLLines.nd rfl (Or.inl rfl) (pv 7)))))))
      (pss_one (ps_ret (pv 4)))), ?_⟩
    refine ⟨(by show 0 ≤ sizeLine; omega), fun z hz => ⟨_, _, rfl, ?_⟩⟩
    have s0 : Same H (upd H z (.lst [])) := same_upd (Same.refl _) hz
    have en : ((f : Int) + (n : Int)).toNat = f + n := by omega
    refine ⟨_, rfl, _, rfl, _, _, rfl, rfl, _, rfl, by omega, by omega, ?_⟩
    rw [en]
    refine for_range (lo := 0) (n := f + n) (fun i σ H' => ∃ t u v, σ = [some (.ref p), some (.ref q), some (.int f), some (.int n), some (.ref z), some (.int (lgN f1 p1 f2 p2 i)), t, u, v] ∧ Same H H' ∧ H' z = some (.lst ((List.range (i - f)).map fun j => V.str (lineT f1 p1 f2 p2 (f + j))))) ⟨none, none, none, rfl, s0, by rw [upd_same]; simp⟩ ?_ ?_
    · rintro i σ H1 hi ⟨t, u, v, rfl, s1, hz1⟩
      have e0 : (0 : Int) + (i : Int) = (i : Int) := by omega
      rw [e0]
      have hp1 := hp.sm s1
      have hq1 := hq.sm s1
      obtain ⟨dx, a1, b1, e1, e2, e3⟩ := id hp1
      obtain ⟨dy, a2, b2, g1, g2, g3⟩ := id hq1
      have no1 : (tmF a1 b1).lookup ("at" : Str) = none := tmF_no _ _ (by decide +kernel) (by decide +kernel)
      have no2 : (tmF a2 b2).lookup ("at" : Str) = none := tmF_no _ _ (by decide +kernel) (by decide +kernel)
      refine ⟨_, rfl, _, rfl, p, dx, _, rfl, e1, no1, _, rfl, p, i, f1, p1, rfl, hp1, n1, _, _, rfl, rfl, ?_⟩
      refine ⟨_, rfl, q, dy, _, rfl, g1, no2, _, rfl, q, i, f2, p2, rfl, hq1, n2, _, _, rfl, rfl, _, _, rfl, ?_⟩
      -- the mark
      refine ⟨_, rfl, _, rfl, _, _, rfl, rfl, _, rfl, ?_⟩
      obtain ⟨⟨w1, w2⟩, ⟨w3, w4⟩, w5⟩ := hok i hi
      have w6 := lg_nonneg f1 p1 f2 p2 (i + 1)
      have W1 := wide_ok (a := (i : Int)) (by omega) (by omega)
      have W2 := wide_ok w1 w2
      have W3 := wide_ok w3 w4
      have W4 := wide_ok w6 w5
      have c1 := W1.l6
      have c2 := W2.l5
      have c3 := W3.l5
      have c4 := W4.l7
      have hb : (" " : Str).length = 1 := by decide
      by_cases cm : lgN f1 p1 f2 p2 (i + 1) > lgN f1 p1 f2 p2 i
      case' pos =>
        have em : markT f1 p1 f2 p2 i = "*" := by unfold markT; rw [if_pos cm]
        have hy : ("*" : Str).length = 1 := by decide
        refine iteD cm ?_
      case' neg =>
        have em : markT f1 p1 f2 p2 i = "." := by unfold markT; rw [if_neg cm]
        have hy : ("." : Str).length = 1 := by decide
        refine iteDN cm ?_
      all_goals
        refine ⟨_, rfl, _, rfl, _, _, rfl, rfl, _, rfl, ?_⟩
        by_cases cf : f ≤ i
        · refine iteD (by omega) ?_
          refine ⟨_, rfl, .inl ⟨rfl, _, SqL.of hz1⟩, ?_⟩
          refine ⟨_, rfl, _, 6, rfl, by omega, by omega, by decide, by decide, ?_⟩
          refine ⟨_, rfl, p, dx, _, rfl, e1, no1, _, rfl, p, i, f1, p1, rfl, hp1, n1, _, 5, rfl, w1, w2, by decide, by decide, _, _, rfl, rfl, ?_, ?_⟩
          · show (wideT (i : Int) 6).length + (wideT (numAt f1 p1 i) 5).length ≤ _
            rw [sizeLine_eq]
            omega
          refine ⟨_, rfl, q, dy, _, rfl, g1, no2, _, rfl, q, i, f2, p2, rfl, hq1, n2, _, 5, rfl, w3, w4, by decide, by decide, _, _, rfl, rfl, ?_, ?_⟩
          · show (wideT (i : Int) 6 ++ wideT (numAt f1 p1 i) 5).length + (wideT (numAt f2 p2 i) 5).length ≤ _
            rw [PySem.Str.length_append, sizeLine_eq]
            omega
          refine ⟨_, rfl, _, 7, rfl, w6, w5, by decide, by decide, _, _, rfl, rfl, ?_, ?_⟩
          · show (wideT (i : Int) 6 ++ wideT (numAt f1 p1 i) 5 ++ wideT (numAt f2 p2 i) 5).length + (wideT (lgN f1 p1 f2 p2 (i + 1)) 7).length ≤ _
            rw [PySem.Str.length_append, PySem.Str.length_append, sizeLine_eq]
            omega
          refine ⟨_, _, rfl, rfl, ?_, ?_⟩
          · show (wideT (i : Int) 6 ++ wideT (numAt f1 p1 i) 5 ++ wideT (numAt f2 p2 i) 5 ++ wideT (lgN f1 p1 f2 p2 (i + 1)) 7).length + (" " : Str).length ≤ _
            rw [PySem.Str.length_append, PySem.Str.length_append, PySem.Str.length_append, sizeLine_eq]
            omega
          refine ⟨_, rfl, _, _, rfl, rfl, ?_, ?_⟩
          · show (wideT (i : Int) 6 ++ wideT (numAt f1 p1 i) 5 ++ wideT (numAt f2 p2 i) 5 ++ wideT (lgN f1 p1 f2 p2 (i + 1)) 7 ++ " ").length + (_ : Str).length ≤ _
            rw [PySem.Str.length_append, PySem.Str.length_append, PySem.Str.length_append, PySem.Str.length_append, sizeLine_eq]
            omega
          refine ⟨z, _, _, rfl, rfl, hz1, small1000 (by simp; omega), ?_⟩
          refine ⟨_, rfl, _, _, _, rfl, same_upd s1 hz, ?_⟩
          rw [upd_same, show i + 1 - f = (i - f) + 1 by omega, List.range_succ, List.map_append, ← em]
          show some (HO.lst (_ ++ [_])) = some (HO.lst (_ ++ [V.str (lineT f1 p1 f2 p2 (f + (i - f)))]))
          rw [show f + (i - f) = i by omega]
          rfl
        · refine iteDN (by omega) ?_
          refine ⟨_, rfl, _, _, _, rfl, s1, ?_⟩
          rw [hz1, show i + 1 - f = 0 by omega, show i - f = 0 by omega]
    · rintro σ H1 ⟨t, u, v, rfl, s1, hz1⟩
      rw [show f + n - f = n by omega] at hz1
      exact ⟨_, rfl, k _ z s1 hz1⟩
end
end R49
set_option maxHeartbeats 4000000
/-! the law's helpers: first ticks, a lane refused, a deed refused -/
namespace R49
open PySem PySem.Spec PyProof.Rows L2
theorem ExC.em {K : PySem.W.Frag} {mg : Str → Option Value} {nm : Str} {C : Addr} (X : ExC K mg nm C) : PySem.W.exmOne K (.ref C) (.ref C) = some true := by
  have e1 : (PySem.W.subIn K (.ref C) (.type "BaseException") == some true) = true := by rw [X.b] <;> rfl
  have e2 : ((PySem.W.clsIn K C).isSome && PySem.W.typeIn K (.ref C) == some (.type "type")) = true := by
    have h2' : (PySem.W.clsIn K C).isSome = true := X.i
    rw [h2', X.t] <;> rfl
  show (if (PySem.W.subIn K (.ref C) (.type "BaseException") == some true) = true then (if ((PySem.W.clsIn K C).isSome && PySem.W.typeIn K (.ref C) == some (.type "type")) = true then PySem.W.subIn K (.ref C) (.ref C) else none) else none) = some true
  rw [if_pos e1, if_pos e2]
  exact X.s
section
variable {P : Program} {w : World} {K : PySem.W.Frag} {mg : Str → Option Value} {base : Heap} {C eR eL eT : Addr}
/-! ### _law_lane_refused -/
def spLaneRef (C : Addr) : Sp := fun vs H Q _ => ∃ (p : Addr) (ls : List Str) (gs : List (Str → Nat)) (ans : List Str), vs = [.ref p] ∧ RdAt C H p ls gs ans ∧ ("z" : Str) ∉ ls ∧ ∀ H', Same H H' → Q (.bl true) H'
theorem scLane : FnScope ["_law_reader_here", "_law_state"] ["_law_reader_here"] (defScope sLLane) := ⟨rfl, rfl, rfl, by decide +kernel, rfl, by decide +kernel, by decide +kernel⟩
theorem ok_laneRef {f fB : Addr} {fd fdB : FuncData} {ds : List Value} (F : Fun K "_law_lane_refused" "_law_lane_refused" sLLane f fd) (EX : ExC K mg "BadLane" eL) (hns : PySem.W.subIn K (.ref eL) (.type "StopIteration") = some false)
    (FB : GFx P w K mg base 2 fB fdB ["reader", "lane", "state"] (spBehindX C eL)) (gB : mg "behind_rows" = some (.ref fB)) (kB : PySem.W.keepIn K (.ref fB) = true) (bB : Binds K fdB ["reader", "lane", "state"] ds) (dB : Vals [.int 0] ds) :
    FnOk P w K mg base CX0 4 f fd ["_law_reader_here"] (spLaneRef C) := by
  refine F.ok scLane (fun vs H Q E h => ?_) (fun cdv A outer s H vs Q E hr h => ?_)
  · obtain ⟨p, ls, gs, ans, rfl, _⟩ := h
    rfl
  · obtain ⟨p, ls, gs, ans, rfl, R, hz, k⟩ := h
    refine ⟨_, pss_cons (ps_try_only (c := .ref eL) (Wout := fun _ _ _ _ => False) (tb := fun W D σ H => ∃ Ech : XK, (∀ cls d σ' H', Ech cls d H' → W cls d σ' H') ∧ NoStop K Ech ∧
          (tCons (tVar 0) (tCons (tLst (tCons (tC (.str "z")) tNil)) tNil)) σ H fun vs H1 => spBehindX C eL (vs ++ [.int 0]) H1 Ech)
        rfl rfl ⟨rfl, by decide, .inl EX.g⟩ takes0 (fun W pn xe tk hpo => pss_one ⟨fun pins s σ H D I h => ?_⟩) (fun a oe cls d pn _ _ => pss_one (ps_ret pe_bl))) (pss_one (ps_ret pe_bl)), ?_⟩
    · obtain ⟨Ech, hW, hN, h⟩ := h
      exact (ps_forX (E := Ech) hpo FB hr (by rfl) gB kB bB dB (passes_call tk hW) hN (pa_cons (pv 0) (pa_cons (pe_lst (pa_cons pe_str pa_nil)) pa_nil))).run pins s σ H D I h
    · refine ⟨fun cls _ H' => cls = .ref eL ∧ Same H H', fun cls d σ' H' h => ?_, fun cls d H' h => by rw [h.1]; exact hns, _, rfl, (by show 1 ≤ sizeLine; decide), fun l hl => ?_⟩
      · obtain ⟨rfl, s1⟩ := h
        exact ⟨true, EX.em, fun _ a _ => k _ s1, fun z => nomatch z⟩
      · have s1 : Same H (upd H l (.lst [.str "z"])) := same_upd (Same.refl _) hl
        refine ⟨p, l, 0, ls, gs, ans, ["z"], rfl, R.sm s1, upd_same, by decide, ?_, fun H' s2 => ⟨rfl, s1.trans s2⟩⟩
        unfold laneB
        simp [hz]
/-! ### _law_first_ticks -/
/-- what ticks asks, but the module -/
structure TkT0 (P : Program) (w : World) (K : PySem.W.Frag) (mg : Str → Option Value) (base : Heap) (k : Nat) (fN C : Addr) (fdN : FuncData) : Prop where
  T : TmT K mg C
  F : Cal P w K mg base CX0 k "number_at" fN fdN ["front", "period", "tick"] (spNum K)
theorem TkT0.to {k : Nat} {fN : Addr} {fdN : FuncData} (T : TkT0 P w K mg base k fN C fdN) (m : L2.Mod K mg base) : TkT P w K mg base k fN C fdN := ⟨m, T.T.cl, T.T.nF, T.T.nP, T.F.g, T.F.kp, T.F.ok, T.F.b⟩
def spFirst (C : Addr) : Sp := fun vs H Q _ => ∃ (p : Addr) (t : Nat) (fs ps : List Int), vs = [.ref p, .int t, .int 6] ∧ TimesAt C H p fs ps ∧ ps ≠ [] ∧
  ∀ (qs : List Addr) (d : Addr) (H' : Hp), qs.length = 6 → (∀ j q, qs[j]? = some q → H' q = some (.tup [.int (t + j : Nat), .int (numAt fs ps (t + j))])) → H' d = some (.lst (qs.map V.ref)) → Same H H' → Q (.ref d) H'
theorem scFirst : FnScope ["_law_times", "_law_start", "_law_many", "_law_found", "_law_one"] ["_law_times", "_law_start", "_law_many"] (defScope sLFirst) := ⟨rfl, rfl, rfl, by decide +kernel, rfl, by decide +kernel, by decide +kernel⟩
theorem ok_first {f fN fT : Addr} {fd fdN fdT : FuncData} {k : Nat} (F : Fun K "_law_first_ticks" "_law_first_ticks" sLFirst f fd) (N : NoG mg) (T0 : TkT0 P w K mg base k fN C fdN) (FT : TkF K fT fdT (defScope sTmTicks)) (mT : Meth K C "ticks" fT)
    (hb : ∀ (s : Shared) (p : Addr) (t : Int) (tt : Tok), BindsTo s fdT ⟨[.ref p], [("start", .int t tt)]⟩ [("self", .ref p), ("start", .int t tt)]) :
    FnOk P w K mg base CX0 (k + 3) f fd ["_law_times", "_law_start", "_law_many"] (spFirst C) := by
  refine F.ok scFirst (fun vs H Q E h => ?_) (fun cdv A outer s H vs Q E hr h => ?_)
  · obtain ⟨p, t, fs, ps, rfl, _⟩ := h
    rfl
  · obtain ⟨p, t, fs, ps, rfl, ⟨dx, a, b, h1, h2, h3⟩, hne, kk⟩ := h
    refine ⟨_, pss_cons (ps_set (i := 3) scFirst.nd rfl (Or.inl rfl) (pe_lst pa_nil))
      (pss_cons ⟨fun pins s σ H D I h => (ps_firstTicks PassesOwn.never FT (T0.to I.ok.mod) hr mT hb (by rfl) N.len scFirst.nd rfl rfl rfl rfl rfl rfl rfl rfl rfl rfl (by decide) (by decide) (by decide) (by decide) (by decide) (by intro _; rfl) (by rfl) (by rfl) (by rfl) (by rfl) (by rfl) (by rfl) (by rfl) (by rfl) (by rfl) (by rfl) (by rfl) (by rfl)).run pins s σ H D I h⟩
      (pss_one (ps_ret (pv 3)))), ?_⟩
    refine ⟨by show 0 ≤ sizeLine; omega, fun z hz => ?_⟩
    have s0 : Same H (upd H z (.lst [])) := same_upd (Same.refl _) hz
    refine ⟨p, dx, a, b, fs, ps, t, z, rfl, rfl, rfl, rfl, s0 _ _ h1, s0 _ _ h2, s0 _ _ h3, ne_of_none h2 hz, ne_of_none h3 hz, hne, upd_same, fun qs q6 H' hl hq hd hk => ?_⟩
    exact ⟨_, rfl, kk qs z H' hl hq hd fun c o e => hk c o (s0 _ _ e) (ne_of_none e hz)⟩
end
/-! ### _law_is_refused -/
/-- refused: try: a() / except e: return True / return False -/
def TRef (K : PySem.W.Frag) (CS : Addr) : (XK → Hp → VK → Prop) → Hp → VK → Prop := fun tl H Q =>
  tl (fun cls _ H' => ∃ b, PySem.W.exmOne K cls (.ref CS) = some b ∧ (b = true → Q (.bl true) H') ∧ (b = false → False)) H fun _ H' => Q (.bl false) H'
section
variable {X : Cx}
theorem ref_gives {Ng : List Str} {x a e q : Str} {sg : Scope} {g CS : Addr} {cdg : Value} {j j2 : Nat} {p1 p2 p3 p4 p5 p6 p7 p8 p9 p10 : Pos} (hge : sg.names.lookup e = some .globalImplicit) (hme : X.mg e = some (.ref CS)) (hde : (e == ("__debug__" : Str)) = false) (h0 : ∀ f : Addr, (L2.start Ng [V.ref f])[0]? = some (some (V.ref f))) :
    LamX.GivesTo X Ng x sg g cdg [.Try [.Expr (.Call (.Name a p1) [] [] p2) p3] [.ExceptHandler (some (.Name e p4)) none [.Return (some (.Constant (.bool true) j p5)) p6] p7] [] [] p8, .Return (some (.Constant (.bool false) j2 p9)) p10] a q (TRef X.K CS) := by
  intro f c' s H Q tl act hc h
  have hgl : Gl (cxOf C8.CX0 X.prog X.w X.K X.mg X.base Ng x sg g cdg X.A X.stack s H C8.E0).nox e := hge
  refine ⟨_, pss_cons (ps_try_only (X := (cxOf C8.CX0 X.prog X.w X.K X.mg X.base Ng x sg g cdg X.A X.stack s H C8.E0).nox) (c := .ref CS) (Wout := fun _ _ _ _ => False)
      (tb := fun W D σ H => ∃ Ech : XK, (∀ cls d σ' H', Ech cls d H' → W cls d σ' H') ∧ σ[0]? = some (some (.ref f)) ∧ H c' = some (LamX.CodeO c' q) ∧ tl Ech H fun _ H' => D.nx σ H')
      rfl rfl ⟨hgl, hde, .inl hme⟩ LamX.takes0 (fun W pn xe tk _ => ?_) (fun a oe cls d pn _ _ => pss_one (ps_ret pe_bl))) (pss_one (ps_ret pe_bl)), ?_⟩
  · refine ⟨fun pins s' σ H' D I h' => ?_⟩
    obtain ⟨Ech, hW, h1, h2, h3⟩ := h'
    have hp := act W pn xe Ech p1 p2 tk hW
    have hq := pss_one (ps_expr (pos := p3) hp)
    exact hq.run pins s' σ H' D I ⟨h1, h2, h3⟩
  · exact ⟨fun cls _ H' => ∃ b, PySem.W.exmOne X.K cls (.ref CS) = some b ∧ (b = true → Q (.bl true) H') ∧ (b = false → False), fun cls d σ' H' ⟨b, e1, e2, e3⟩ => ⟨b, e1, fun hb a _ => e2 hb, fun hb => e3 hb⟩, h0 f, hc, h⟩
end
end R49
set_option maxHeartbeats 4000000
/-! plain mathematics: sums, multiples, lags of timetables -/
namespace R49
open PySem PySem.Spec PyProof.Rows L2
/-! ### what a drawn timetable is -/
structure Sm (fs ps : List Int) : Prop where
  f : fs.length ≤ 3
  p0 : 1 ≤ ps.length
  p : ps.length ≤ 4
  fb : ∀ x ∈ fs, 0 ≤ x ∧ x ≤ 9
  pb : ∀ x ∈ ps, 0 ≤ x ∧ x ≤ 9
theorem Sm.ne {fs ps : List Int} (h : Sm fs ps) : ps ≠ [] := fun e => by
  have := h.p0
  rw [e] at this
  exact absurd this (by decide)
theorem Sm.tb {fs ps : List Int} (h : Sm fs ps) : Tb fs ps := ⟨by have := h.f; omega, by have := h.p; omega, h.ne⟩
theorem getD_mem {xs : List Int} {i : Nat} (h : i < xs.length) : xs.getD i 0 ∈ xs := by
  rw [List.getD_eq_getElem?_getD, List.getElem?_eq_getElem h]
  exact List.getElem_mem h
theorem num_bound {fs ps : List Int} {m : Int} (hp : ps ≠ []) (hf : ∀ x ∈ fs, 0 ≤ x ∧ x ≤ m) (hq : ∀ x ∈ ps, 0 ≤ x ∧ x ≤ m) (t : Nat) : 0 ≤ numAt fs ps t ∧ numAt fs ps t ≤ m := by
  unfold numAt
  have hl : 0 < ps.length := List.length_pos_iff.mpr hp
  split
  · rename_i c
    exact hf _ (getD_mem c)
  · exact hq _ (getD_mem (Nat.mod_lt _ hl))
theorem Sm.num {fs ps : List Int} (h : Sm fs ps) (t : Nat) : 0 ≤ numAt fs ps t ∧ numAt fs ps t ≤ 9 := num_bound h.ne h.fb h.pb t
/-! ### sums -/
theorem num_per {fs ps : List Int} {L M t : Nat} (hL : fs.length ≤ L) (hM : ps.length ∣ M) (ht : L ≤ t) : numAt fs ps (L + (t - L) % M) = numAt fs ps t := by
  unfold numAt
  rw [if_neg (by omega), if_neg (by omega)]
  have e : (L + (t - L) % M - fs.length) % ps.length = (t - fs.length) % ps.length := by
    have h1 : L + (t - L) % M - fs.length = (L - fs.length) + (t - L) % M := by omega
    have h2 : t - fs.length = (L - fs.length) + (t - L) := by omega
    rw [h1, h2, Nat.add_mod, Nat.mod_mod_of_dvd _ hM, ← Nat.add_mod]
  rw [e]
theorem sumF_len {f1 p1 f2 p2 : List Int} : (sumF f1 p1 f2 p2).length = sumL f1 f2 := by
  unfold sumF
  rw [List.length_take, sumAll_len]
  omega
theorem sumP_len {f1 p1 f2 p2 : List Int} : (sumP f1 p1 f2 p2).length = sumM p1 p2 := by
  unfold sumP
  rw [List.length_drop, sumAll_len]
  omega
theorem sumAll_get {f1 p1 f2 p2 : List Int} {i : Nat} (h : i < sumL f1 f2 + sumM p1 p2) : (sumAll f1 p1 f2 p2)[i]? = some (sumAt f1 p1 f2 p2 i) := by
  unfold sumAll
  simp [h]
theorem num_sum {f1 p1 f2 p2 : List Int} (T1 : Tb f1 p1) (T2 : Tb f2 p2) (t : Nat) : numAt (sumF f1 p1 f2 p2) (sumP f1 p1 f2 p2) t = numAt f1 p1 t + numAt f2 p2 t := by
  have hM := sumM_pos T1 T2
  have hl1 : f1.length ≤ sumL f1 f2 := by unfold sumL; omega
  have hl2 : f2.length ≤ sumL f1 f2 := by unfold sumL; omega
  have e : numAt (sumF f1 p1 f2 p2) (sumP f1 p1 f2 p2) t = sumAt f1 p1 f2 p2 (if t < sumL f1 f2 then t else sumL f1 f2 + (t - sumL f1 f2) % sumM p1 p2) := by
    have h0 : numAt (sumF f1 p1 f2 p2) (sumP f1 p1 f2 p2) t = if t < sumL f1 f2 then (sumF f1 p1 f2 p2).getD t 0 else (sumP f1 p1 f2 p2).getD ((t - sumL f1 f2) % sumM p1 p2) 0 := by
      unfold numAt
      rw [sumF_len, sumP_len]
    rw [h0]
    by_cases c : t < sumL f1 f2
    · rw [if_pos c, if_pos c, List.getD_eq_getElem?_getD]
      unfold sumF
      rw [List.getElem?_take, if_pos c, sumAll_get (by omega)]
      rfl
    · rw [if_neg c, if_neg c, List.getD_eq_getElem?_getD]
      unfold sumP
      have hm : (t - sumL f1 f2) % sumM p1 p2 < sumM p1 p2 := Nat.mod_lt _ hM
      rw [List.getElem?_drop, sumAll_get (by omega)]
      rfl
  rw [e]
  unfold sumAt
  by_cases c : t < sumL f1 f2
  · rw [if_pos c]
  · rw [if_neg c, num_per (M := sumM p1 p2) (t := t) hl1 (cm_left _ _) (by omega), num_per (M := sumM p1 p2) (t := t) hl2 (cm_right _ _) (by omega)]
theorem sumAt_comm (f1 p1 f2 p2 : List Int) (t : Nat) : sumAt f1 p1 f2 p2 t = sumAt f2 p2 f1 p1 t := Int.add_comm _ _
theorem sumAll_comm (f1 p1 f2 p2 : List Int) : sumAll f1 p1 f2 p2 = sumAll f2 p2 f1 p1 := by
  have h1 : sumL f1 f2 = sumL f2 f1 := Nat.max_comm _ _
  have h2 : sumM p1 p2 = sumM p2 p1 := cm_comm _ _
  unfold sumAll
  rw [h1, h2]
  exact List.map_congr_left fun t _ => sumAt_comm _ _ _ _ t
theorem sumF_comm (f1 p1 f2 p2 : List Int) : sumF f1 p1 f2 p2 = sumF f2 p2 f1 p1 := by
  unfold sumF
  rw [sumAll_comm, show sumL f1 f2 = sumL f2 f1 from Nat.max_comm _ _]
theorem sumP_comm (f1 p1 f2 p2 : List Int) : sumP f1 p1 f2 p2 = sumP f2 p2 f1 p1 := by
  unfold sumP
  rw [sumAll_comm, show sumL f1 f2 = sumL f2 f1 from Nat.max_comm _ _]
theorem nums_of {xs : List Int} (hl : xs.length ≤ 24) (hb : ∀ x ∈ xs, 0 ≤ x ∧ x ≤ 100) : numsB xs = true := by
  unfold numsB
  rw [decide_eq_true hl, Bool.true_and, List.all_eq_true]
  intro x hx
  unfold natB
  rw [decide_eq_true (hb x hx).1, decide_eq_true (hb x hx).2]
  rfl
theorem ok_of {fs ps : List Int} (h1 : fs.length ≤ 24) (h2 : ps.length ≤ 24) (h3 : 1 ≤ ps.length) (b1 : ∀ x ∈ fs, 0 ≤ x ∧ x ≤ 100) (b2 : ∀ x ∈ ps, 0 ≤ x ∧ x ≤ 100) : okB fs ps = true := by
  unfold okB
  rw [nums_of h1 b1, nums_of h2 b2, decide_eq_false (by omega)]
  rfl
theorem Sm.ok {fs ps : List Int} (h : Sm fs ps) : okB fs ps = true :=
  ok_of (by have := h.f; omega) (by have := h.p; omega) h.p0 (fun x hx => by have := h.fb x hx; omega) (fun x hx => by have := h.pb x hx; omega)
theorem sumM_small {f1 p1 f2 p2 : List Int} (h1 : Sm f1 p1) (h2 : Sm f2 p2) : sumM p1 p2 ≤ 16 := by
  have := cm_le (a := p1.length) (b := p2.length)
  have h3 : p1.length * p2.length ≤ 4 * 4 := Nat.mul_le_mul h1.p h2.p
  unfold sumM
  omega
theorem sumL_small {f1 p1 f2 p2 : List Int} (h1 : Sm f1 p1) (h2 : Sm f2 p2) : sumL f1 f2 ≤ 3 := by
  have := h1.f
  have := h2.f
  unfold sumL
  omega
theorem sumAll_bound {f1 p1 f2 p2 : List Int} (h1 : Sm f1 p1) (h2 : Sm f2 p2) : ∀ x ∈ sumAll f1 p1 f2 p2, 0 ≤ x ∧ x ≤ 100 := fun x hx => by
  unfold sumAll at hx
  obtain ⟨t, _, rfl⟩ := List.mem_map.mp hx
  have a := h1.num t
  have b := h2.num t
  unfold sumAt
  omega
theorem sum_ok {f1 p1 f2 p2 : List Int} (h1 : Sm f1 p1) (h2 : Sm f2 p2) : okB (sumF f1 p1 f2 p2) (sumP f1 p1 f2 p2) = true := by
  have := sumM_small h1 h2
  have := sumL_small h1 h2
  have := sumM_pos h1.tb h2.tb
  refine ok_of (by rw [sumF_len]; omega) (by rw [sumP_len]; omega) (by rw [sumP_len]; omega) (fun x hx => sumAll_bound h1 h2 x (List.mem_of_mem_take hx)) (fun x hx => sumAll_bound h1 h2 x (List.mem_of_mem_drop hx))
/-! ### multiples -/
theorem scaled_len (m : Int) (xs : List Int) : (scaled m xs).length = xs.length := by
  unfold scaled
  rw [List.length_map]
theorem scaled_getD (m : Int) (xs : List Int) (i : Nat) : (scaled m xs).getD i 0 = xs.getD i 0 * m := by
  unfold scaled
  rw [List.getD_eq_getElem?_getD, List.getD_eq_getElem?_getD, List.getElem?_map]
  cases xs[i]? with
  | none => simp
  | some x => rfl
theorem num_scaled (m : Int) (fs ps : List Int) (t : Nat) : numAt (scaled m fs) (scaled m ps) t = numAt fs ps t * m := by
  unfold numAt
  rw [scaled_len, scaled_len, scaled_getD, scaled_getD]
  split <;> rfl
theorem scaled_bound {m : Int} {xs : List Int} (h0 : 0 ≤ m) (h1 : m ≤ 4) (h : ∀ x ∈ xs, 0 ≤ x ∧ x ≤ 9) : ∀ x ∈ scaled m xs, 0 ≤ x ∧ x ≤ 100 := fun x hx => by
  unfold scaled at hx
  obtain ⟨y, hy, rfl⟩ := List.mem_map.mp hx
  have a := h y hy
  refine ⟨Int.mul_nonneg a.1 h0, ?_⟩
  have b : y * m ≤ 9 * 4 := Int.mul_le_mul a.2 h1 h0 (by decide)
  omega
theorem scaled_ok {fs ps : List Int} {m : Int} (h : Sm fs ps) (h0 : 0 ≤ m) (h1 : m ≤ 4) : okB (scaled m fs) (scaled m ps) = true :=
  ok_of (by rw [scaled_len]; have := h.f; omega) (by rw [scaled_len]; have := h.p; omega) (by rw [scaled_len]; exact h.p0) (scaled_bound h0 h1 h.fb) (scaled_bound h0 h1 h.pb)
theorem scaled_tb {fs ps : List Int} {m : Int} (h : Sm fs ps) : Tb (scaled m fs) (scaled m ps) := ⟨by rw [scaled_len]; have := h.f; omega, by rw [scaled_len]; have := h.p; omega, fun e => by
  have := scaled_len m ps
  rw [e] at this
  have h2 := h.p0
  rw [← this] at h2
  exact absurd h2 (by decide)⟩
theorem sum_scaled (m : Int) : ∀ xs : List Int, (scaled m xs).sum = xs.sum * m
  | [] => by simp [scaled]
  | x :: xs => by
    show (x * m :: scaled m xs).sum = (x :: xs).sum * m
    rw [List.sum_cons, List.sum_cons, sum_scaled m xs, Int.add_mul]
theorem growth_scaled (p1 p2 : List Int) : growth (scaled 3 p1) (scaled 3 p2) = 3 * growth p1 p2 := by
  have e : sumM (scaled 3 p1) (scaled 3 p2) = sumM p1 p2 := by
    unfold sumM
    rw [scaled_len, scaled_len]
  unfold growth
  rw [e, sum_scaled, sum_scaled, scaled_len, scaled_len, ← Int.mul_assoc, ← Int.mul_assoc, ← Int.sub_mul, Int.mul_comm]
theorem mx0_scaled (j : Int) : mx0 (3 * j) = 3 * mx0 j := by
  unfold mx0
  split <;> split <;> omega
theorem lg_scaled (f1 p1 f2 p2 : List Int) : ∀ n, lgN (scaled 3 f1) (scaled 3 p1) (scaled 3 f2) (scaled 3 p2) n = 3 * lgN f1 p1 f2 p2 n
  | 0 => rfl
  | n + 1 => by
    show mx0 (lgN (scaled 3 f1) (scaled 3 p1) (scaled 3 f2) (scaled 3 p2) n + numAt (scaled 3 f1) (scaled 3 p1) n - numAt (scaled 3 f2) (scaled 3 p2) n) = 3 * mx0 (lgN f1 p1 f2 p2 n + numAt f1 p1 n - numAt f2 p2 n)
    rw [lg_scaled f1 p1 f2 p2 n, num_scaled, num_scaled, ← mx0_scaled]
    congr 1
    omega
theorem told_scaled (f1 p1 f2 p2 : List Int) : told (scaled 3 f1) (scaled 3 p1) (scaled 3 f2) (scaled 3 p2) = (told f1 p1 f2 p2).map fun x => 3 * x := by
  have e1 : sumM (scaled 3 p1) (scaled 3 p2) = sumM p1 p2 := by
    unfold sumM
    rw [scaled_len, scaled_len]
  have e2 : sumL (scaled 3 f1) (scaled 3 f2) = sumL f1 f2 := by
    unfold sumL
    rw [scaled_len, scaled_len]
  unfold told lagL
  rw [e1, e2, List.map_map]
  exact List.map_congr_left fun t _ => lg_scaled f1 p1 f2 p2 (t + 1)
theorem top_scaled {xs : List Int} {m m' : Int} {j j' : Nat} (h : Top xs m j) (h' : Top (xs.map fun x => 3 * x) m' j') : m' = 3 * m ∧ j' = j := by
  have hj := h'.at_
  rw [List.getElem?_map] at hj
  cases e : xs[j']? with
  | none => rw [e] at hj; cases hj
  | some y =>
    rw [e] at hj
    have hy : 3 * y = m' := Option.some.inj hj
    have h1 := h.le y (List.mem_of_getElem? e)
    have h2 := h'.le (3 * m) (List.mem_map.mpr ⟨m, List.mem_of_getElem? h.at_, rfl⟩)
    have em : y = m := by omega
    subst em
    refine ⟨hy.symm, ?_⟩
    rcases Nat.lt_trichotomy j' j with c | c | c
    · exact absurd rfl (h.fst j' y c e)
    · exact c
    · exact absurd hy (h'.fst j (3 * y) c (by rw [List.getElem?_map, h.at_]; rfl))
/-! ### lines -/
theorem lg_small {f1 p1 f2 p2 : List Int} (h1 : Sm f1 p1) (h2 : Sm f2 p2) : ∀ n : Nat, lgN f1 p1 f2 p2 n ≤ 9 * (n : Int)
  | 0 => by show (0 : Int) ≤ _; omega
  | n + 1 => by
    have ih := lg_small h1 h2 n
    have a := h1.num n
    have b := h2.num n
    show mx0 _ ≤ _
    unfold mx0
    split <;> omega
theorem lines_ok {f1 p1 f2 p2 : List Int} (h1 : Sm f1 p1) (h2 : Sm f2 p2) {n : Nat} (hn : n ≤ 20) : LineOk f1 p1 f2 p2 n := fun t ht => by
  have a := h1.num t
  have b := h2.num t
  have c := lg_small h1 h2 (t + 1)
  refine ⟨⟨a.1, by omega⟩, ⟨b.1, by omega⟩, ?_⟩
  omega
/-! ### the refused ones; the last -/
theorem no_1 : okB (sumF [60] [1] [] [41]) (sumP [60] [1] [] [41]) = false := by decide +kernel
theorem no_2 : okB (sumF [] [0, 0, 0, 0, 0] [] [0, 0, 0, 0, 0, 0, 0]) (sumP [] [0, 0, 0, 0, 0] [] [0, 0, 0, 0, 0, 0, 0]) = false := by decide +kernel
theorem no_3 : okB (scaled 2 []) (scaled 2 [51]) = false := by decide +kernel
theorem ok_1 : okB [60] [1] = true := by decide +kernel
theorem ok_2 : okB [] [41] = true := by decide +kernel
theorem ok_3 : okB [] [0, 0, 0, 0, 0] = true := by decide +kernel
theorem ok_4 : okB [] [0, 0, 0, 0, 0, 0, 0] = true := by decide +kernel
theorem ok_5 : okB [] [51] = true := by decide +kernel
theorem ok_6 : okB [40] [1] = true := by decide +kernel
theorem ok_7 : okB [100] [2] = true := by decide +kernel
theorem ok_8 : okB (sumF [60] [1] [40] [1]) (sumP [60] [1] [40] [1]) = true := by decide +kernel
theorem eq_F : sumF [60] [1] [40] [1] = [100] := by decide +kernel
theorem eq_P : sumP [60] [1] [40] [1] = [2] := by decide +kernel
end R49
set_option maxHeartbeats 4000000
/-! the law's frame; what it asks of the defs that it calls -/
namespace R49
open PySem PySem.Spec PyProof.Rows L2 GenW
/-- all that the law calls -/
structure LK (P : Program) (w : World) (K : PySem.W.Frag) (mg : Str → Option Value) (base : Heap) where
  C : Addr
  R : Addr
  cL : Addr
  cG : Addr
  eT : Addr
  N : NoG mg
  T : TmT K mg C
  TR : RdT K mg R
  ET : ExC K mg "BadTimes" eT
  TL : TwoT K mg "Lag" "number" "tick" cL
  TG : TwoT K mg "Growing" "growth" "period" cG
  fTake : Addr
  dTake : FuncData
  take : Cal P w K mg base CX0 2 "_law_take" fTake dTake ["_law_draw", "_law_many"] (spTake K)
  fPick : Addr
  dPick : FuncData
  pick : Cal P w K mg base CX0 3 "_law_pick" fPick dPick ["_law_draw", "_law_items"] (spPickT K)
  fLL : Addr
  dLL : FuncData
  ll : Cal P w K mg base CX0 4 "_law_letters" fLL dLL ["_law_draw"] (spLL K)
  fRd : Addr
  dRd : FuncData
  lrd : Cal P w K mg base CX0 4 "_law_reader" fRd dRd ["_law_draw", "_law_letters_here"] (spLReader K)
  fRow : Addr
  dRow : FuncData
  row : Cal P w K mg base CX0 3 "_law_row" fRow dRow ["_law_draw", "_law_many", "_law_most"] (spRow K)
  fLed : Addr
  dLed : FuncData
  lled : Cal P w K mg base CX0 1 "_law_led" fLed dLed ["_law_steps_here", "_law_lane", "_law_state"] (spLed K)
  fFirst : Addr
  dFirst : FuncData
  first : Cal P w K mg base CX0 4 "_law_first_ticks" fFirst dFirst ["_law_times", "_law_start", "_law_many"] (spFirst C)
  fLane : Addr
  dLane : FuncData
  lane : Cal P w K mg base CX0 4 "_law_lane_refused" fLane dLane ["_law_reader_here"] (spLaneRef R)
  fLines : Addr
  dLines : FuncData
  llines : Cal P w K mg base CX0 3 "_law_lines" fLines dLines ["_law_fed", "_law_read", "_law_first", "_law_many"] (spLLines C)
  fGreat : Addr
  dGreat : FuncData
  great : Cal P w K mg base CX0 4 "greatest_lag" fGreat dGreat ["fed", "read"] (spGreat C cL cG)
  -- the reader
  fRI : Addr
  dRI : FuncData
  MR : Mk K R fRI
  FRI : FnOk P w K mg base CX0 3 fRI dRI ["self", "letters", "steps", "answers"] (spRdInit R)
  bRI : Binds K dRI ["self", "letters", "steps", "answers"] []
  fRC : Addr
  dRC : FuncData
  rcall : StX.CallO K R fRC
  FRC : FnOk P w K mg base CX0 4 fRC dRC ["self", "lane"] (spAnswer R)
  bRC : Binds K dRC ["self", "lane"] []
  fRL : Addr
  dRL : FuncData
  lenF : PySem.W.findIn K (.ref R) "__len__" = some (some (.ref fRL))
  lenI : PySem.W.isFn K (.ref fRL) = true
  FRL : FnOk P w K mg base CX0 1 fRL dRL ["self"] (spRdLen R)
  bRL : Binds K dRL ["self"] []
  -- behind_rows
  fB : Addr
  dB : FuncData
  GB : GFn P w K mg base 2 fB dB ["reader", "lane", "state"] (spBehind R)
  gB : mg "behind_rows" = some (.ref fB)
  kB : PySem.W.keepIn K (.ref fB) = true
  kbB : KBn K dB ["reader", "lane", "state"] 2 ["state"] (fun us ws => us ++ ws) (fun vs zs => vs ++ zs)
  dsB : List Value
  bB : Binds K dB ["reader", "lane", "state"] dsB
  vB : Vals [.int 0] dsB
  -- timetables
  fTI : Addr
  dTI : FuncData
  MT : Mk K C fTI
  FTI : FnOk P w K mg base (L2.CX P w) 3 fTI dTI ["self", "front", "period"] (spTmInit C eT)
  bTI : Binds K dTI ["self", "front", "period"] []
  sf : PySem.W.selfFirst K C = true
  fAdd : Addr
  dAdd : FuncData
  addF : PySem.W.findIn K (.ref C) (PySem.dunder Operator.Add.info.2) = some (some (.ref fAdd))
  addI : PySem.W.isFn K (.ref fAdd) = true
  FAdd : FnOk P w K mg base (L2.CX P w) 5 fAdd dAdd ["self", "other"] (spTmAdd C eT)
  bAdd : Binds K dAdd ["self", "other"] []
  fMul : Addr
  dMul : FuncData
  mulF : PySem.W.findIn K (.ref C) (PySem.dunder Operator.Mult.info.2) = some (some (.ref fMul))
  mulI : PySem.W.isFn K (.ref fMul) = true
  FMul : FnOk P w K mg base (L2.CX P w) 5 fMul dMul ["self", "other"] (spTmMul C eT)
  bMul : Binds K dMul ["self", "other"] []
  mulR : PySem.W.findIn K (.ref C) (dunderR Operator.Mult.info.2) = some none
  mulfo : Option Value
  mulro : Option Value
  mul1 : PySem.W.findIn K (.type "int") (PySem.dunder Operator.Mult.info.2) = some mulfo
  mul2 : PySem.W.findIn K (.type "int") (dunderR Operator.Mult.info.2) = some mulro
  mul3 : PySem.W.subIn K (.type "int") (.ref C) = some false
  nf : PySem.W.notFirst K C (.ref C) = true
  fEq : Addr
  dEq : FuncData
  eqF : PySem.W.findIn K (.ref C) "__eq__" = some (some (.ref fEq))
  eqI : PySem.W.isFn K (.ref fEq) = true
  FEq : FnOk P w K mg base CX0 1 fEq dEq ["self", "other"] (spTmEq C)
  bEq : Binds K dEq ["self", "other"] []
  neF : PySem.W.findIn K (.ref C) "__ne__" = some (some (.builtin "object.__ne__"))
  fGi : Addr
  dGi : FuncData
  giF : PySem.W.findIn K (.ref C) "__getitem__" = some (some (.ref fGi))
  giN : PySem.W.fnIn K fGi = true
  giI : PySem.W.isFn K (.ref fGi) = true
  FGi : FnOk P w K mg base CX0 2 fGi dGi ["self", "tick"] (spTmAt C)
  bGi : Binds K dGi ["self", "tick"] []
  fAt : Addr
  dAt : FuncData
  at_ : CalM P w K mg base CX0 2 C "at" fAt dAt ["self", "tick"] (spTmAt C)
  -- lag_lines
  fLn : Addr
  dLn : FuncData
  GLn : GFn P w K mg base 4 fLn dLn ["fed", "read", "many", "first"] (spLines C)
  gLn : mg "lag_lines" = some (.ref fLn)
  kLn : PySem.W.keepIn K (.ref fLn) = true
  kbLn : KBn K dLn ["fed", "read", "many", "first"] 3 ["first"] (fun us ws => us ++ ws) (fun vs zs => vs ++ zs)
  dsLn : List Value
  bLn : Binds K dLn ["fed", "read", "many", "first"] dsLn
  vLn : Vals [.int 0] dsLn
  -- ticks
  fNum : Addr
  dNum : FuncData
  T0 : TkT0 P w K mg base 1 fNum C dNum
  fTk : Addr
  dTk : FuncData
  FTk : TkF K fTk dTk (defScope sTmTicks)
  mTk : Meth K C "ticks" fTk
  dsTk : List Value
  bTk : Binds K dTk ["self", "start"] dsTk
  vTk : Vals [.int 0] dsTk
  -- truth
  fLB : Addr
  dLB : FuncData
  lbF : PySem.W.findIn K (.ref cL) "__bool__" = some (some (.ref fLB))
  lbI : PySem.W.isFn K (.ref fLB) = true
  FLB : FnOk P w K mg base CX0 1 fLB dLB ["self"] (spBool true)
  bLB : Binds K dLB ["self"] []
  fGB : Addr
  dGB : FuncData
  gbF : PySem.W.findIn K (.ref cG) "__bool__" = some (some (.ref fGB))
  gbI : PySem.W.isFn K (.ref fGB) = true
  FGB : FnOk P w K mg base CX0 1 fGB dGB ["self"] (spBool false)
  bGB : Binds K dGB ["self"] []
  -- _law_is_refused
  fRf : Addr
  rf : ∃ (oc : Value) (od : Option Addr) (an : Option Addr) (osl : Array (Option Value)) (dV kV doc pm cdv ct : Value), K.lookup fRf = some ⟨oc, od, .func (PySem.W.fnOf "_law_is_refused" "_law_is_refused" (defArgs sLRef) (defBody sLRef) (defScope sLRef) dV kV doc pm an cdv ct), osl⟩ ∧
    PySem.W.codeIn K cdv "_law_is_refused" = true ∧ Binds K (PySem.W.fnOf "_law_is_refused" "_law_is_refused" (defArgs sLRef) (defBody sLRef) (defScope sLRef) dV kV doc pm an cdv ct) ["_law_deed"] []
  gRf : mg "_law_is_refused" = some (.ref fRf)
  kRf : PySem.W.keepIn K (.ref fRf) = true
/-- the law's names by slot -/
def LN : List Str := ["_law_script", "_law_draw", "_law_letters_here", "_law_steps_here", "_law_answers", "_law_reader_here", "_law_lane", "_law_start", "_law_due", "_law_one", "_law_two", "_law_both", "_law_many", "_law_more", "_law_tick", "_law_number_here", "_law_first", "_law_second", "_law_turn", "_law_at"]
theorem scLaw : FnScope LN ["_law_script"] (defScope sLaw) := ⟨rfl, rfl, rfl, by decide +kernel, rfl, by decide +kernel, by decide +kernel⟩
abbrev XL (P : Program) (w : World) (K : PySem.W.Frag) (mg : Str → Option Value) (base : Heap) (f : Addr) (cdv : Value) (A : Around) (outer : List Env) (s : Shared) (H : Hp) (E : XK) : Cx := (cxOf CX0 P w K mg base LN "law" (defScope sLaw) f cdv A outer s H E).nox
def stm (i : Nat) : Stmt := (defBody sLaw).getD i (.Pass ⟨0, 0, 0, 0⟩)
/-- a statement that leads from Pre to Post -/
def PSt (X : Cx) (st : Stmt) (Pre Post : L2.St → Hp → Prop) : Prop := ∃ t, PS X st t ∧ ∀ (D : Ends) σ H, Pre σ H → (∀ σ' H', Post σ' H' → D.nx σ' H') → t D σ H
/-- the rest of the law: from Pre True comes out -/
def PRest (X : Cx) (rest : List Stmt) (Pre : L2.St → Hp → Prop) : Prop := ∃ t, PSs X rest t ∧ ∀ (D : Ends) σ H, Pre σ H → (∀ H', D.rt (.bl true) H') → t D σ H
theorem pst_cons {X : Cx} {st : Stmt} {rest : List Stmt} {Pre Mid : L2.St → Hp → Prop} (a : PSt X st Pre Mid) (b : PRest X rest Mid) : PRest X (st :: rest) Pre := by
  obtain ⟨t, ht, h1⟩ := a
  obtain ⟨u, hu, h2⟩ := b
  refine ⟨_, pss_cons ht hu, fun D σ H h hr => ?_⟩
  exact h1 _ σ H h fun σ' H' h' => h2 D σ' H' h' hr
/-! ### what stands through a draw -/
structure Bs (K : PySem.W.Frag) (H : Hp) (d sc tb : Addr) (ns : List Int) : Prop where
  D : Drw K H d sc ns
  t : H tb = some (.tbl #[])
section
variable {K : PySem.W.Frag} {H H' : Hp} {d sc tb a p ln : Addr} {ns : List Int} {ls ans lane : List Str} {gs : List (Str → Nat)} {fs ps : List Int} {C : Addr}
theorem Bs.at_ (B : Bs K H d sc tb ns) : ∃ j : Int, H d = some (.lst [.ref sc, .int j]) := by
  obtain ⟨j, n, h, _⟩ := B.D
  exact ⟨j, h⟩
theorem Bs.mv (B : Bs K H d sc tb ns) (D' : Drw K H' d sc ns) (s : SmD d H H') : Bs K H' d sc tb ns := by
  obtain ⟨j, h⟩ := B.at_
  exact ⟨D', s _ _ (ne_of B.t h (by intro z; cases z)) B.t⟩
theorem Bs.sm (B : Bs K H d sc tb ns) (s : Same H H') : Bs K H' d sc tb ns := ⟨B.D.sm s, s _ _ B.t⟩
theorem Bs.neS (B : Bs K H d sc tb ns) (h : H a = some (.lst (sV ls))) : a ≠ d := by
  obtain ⟨j, hd⟩ := B.at_
  refine ne_of h hd fun z => ?_
  cases ls with
  | nil => cases z
  | cons x xs => cases z
theorem Bs.neI (B : Bs K H d sc tb ns) (h : H a = some (.lst (iV fs))) : a ≠ d := by
  obtain ⟨j, hd⟩ := B.at_
  refine ne_of h hd fun z => ?_
  cases fs with
  | nil => cases z
  | cons x xs => cases z
theorem Bs.neR {qs : List Addr} (B : Bs K H d sc tb ns) (h : H a = some (.lst (qs.map V.ref))) : a ≠ d := by
  obtain ⟨j, hd⟩ := B.at_
  refine ne_of h hd fun z => ?_
  match qs, z with
  | [], z => cases z
  | [_], z => cases z
  | _ :: _ :: _, z => cases z
theorem Bs.neT {xs : List V} (B : Bs K H d sc tb ns) (h : H a = some (.tup xs)) : a ≠ d := by
  obtain ⟨j, hd⟩ := B.at_
  exact ne_of h hd (by intro z; cases z)
theorem Bs.rows (B : Bs K H d sc tb ns) (R : RowsAt H a ls gs) (s : SmD d H H') : RowsAt H' a ls gs := by
  obtain ⟨qs, h1, h2, h3⟩ := R
  obtain ⟨j, hd⟩ := B.at_
  exact ⟨qs, s _ _ (B.neR h1) h1, h2, fun i q g e1 e2 => s _ _ (ne_of (h3 i q g e1 e2) hd (by intro z; cases z)) (h3 i q g e1 e2)⟩
theorem Bs.rd (B : Bs K H d sc tb ns) (R : RdAt C H p ls gs ans) (s : SmD d H H') : RdAt C H' p ls gs ans := by
  obtain ⟨dx, la, sa, aa, h1, h2, h3, h4⟩ := R
  obtain ⟨j, hd⟩ := B.at_
  exact ⟨dx, la, sa, aa, s _ _ (ne_of h1 hd (by intro z; cases z)) h1, s _ _ (B.neT h2) h2, B.rows h3 s, s _ _ (B.neS h4) h4⟩
theorem Bs.tm (B : Bs K H d sc tb ns) (R : TimesAt C H p fs ps) (s : SmD d H H') : TimesAt C H' p fs ps := by
  obtain ⟨dx, la, sa, h1, h2, h3⟩ := R
  obtain ⟨j, hd⟩ := B.at_
  exact ⟨dx, la, sa, s _ _ (ne_of h1 hd (by intro z; cases z)) h1, s _ _ (B.neI h2) h2, s _ _ (B.neI h3) h3⟩
end
end R49
set_option maxHeartbeats 4000000
/-! the law's first half: the reader -/
namespace R49
open PySem PySem.Spec PyProof.Rows L2 GenW
section
variable {P : Program} {w : World} {K : PySem.W.Frag} {mg : Str → Option Value} {base : Heap} {f : Addr} {cdv : Value} {A : Around} {outer : List Env} {s : Shared} {H0 : Hp} {E : XK} {sc tb : Addr} {ns : List Int}
/-! ### the draw -/
def J0 (K : PySem.W.Frag) (sc tb : Addr) (ns : List Int) : L2.St → Hp → Prop := fun σ H => σ = [some (.ref sc), none, none, none, none, none, none, none, none, none, none, none, none, none, none, none, none, none, none, none] ∧ SqL K H sc (iV ns) ∧ H tb = some (.tbl #[])
def J1 (K : PySem.W.Frag) (sc tb : Addr) (ns : List Int) : L2.St → Hp → Prop := fun σ H => ∃ d, σ = [some (.ref sc), some (.ref d), none, none, none, none, none, none, none, none, none, none, none, none, none, none, none, none, none, none] ∧ Bs K H d sc tb ns
theorem st0 : PSt (XL P w K mg base f cdv A outer s H0 E) (stm 0) (J0 K sc tb ns) (J1 K sc tb ns) := by
  refine ⟨_, ps_set (i := 1) scLaw.nd rfl (Or.inr rfl) (pe_lst (pa_cons (pv 0) (pa_cons pe_int pa_nil))), fun D σ H h k => ?_⟩
  obtain ⟨rfl, hs, ht⟩ := h
  refine ⟨_, rfl, (by show 2 ≤ sizeLine; decide), fun d hd => k _ _ ⟨d, rfl, ⟨0, 0, upd_same, rfl, (same_upd (Same.refl _) hd).seq hs, ?_⟩, same_upd (Same.refl _) hd _ _ ht⟩⟩
  rcases hs with (h | ⟨o, h⟩) | h
  · exact .inl (ne_of_none h hd)
  · exact .inl (ne_of_none h hd)
  · exact .inr fun H' => .inr h
/-! ### letters, steps -/
def J2 (K : PySem.W.Frag) (sc tb : Addr) (ns : List Int) : L2.St → Hp → Prop := fun σ H => ∃ d la ls, σ = [some (.ref sc), some (.ref d), some (.ref la), none, none, none, none, none, none, none, none, none, none, none, none, none, none, none, none, none] ∧ Bs K H d sc tb ns ∧ LsOk ls ∧ H la = some (.tup (sV ls))
theorem st1 (L : LK P w K mg base) (hr : Room 8 (XL P w K mg base f cdv A outer s H0 E).A) : PSt (XL P w K mg base f cdv A outer s H0 E) (stm 1) (J1 K sc tb ns) (J2 K sc tb ns) := by
  refine ⟨_, ps_set (i := 2) scLaw.nd rfl (Or.inr rfl) (pe_call L.ll.ok (hr.mono (by decide)) (by rfl) L.ll.g L.ll.kp L.ll.b .nil pass0 (pa_cons (pv 1) pa_nil)), fun D σ H h k => ?_⟩
  obtain ⟨d, rfl, B⟩ := h
  exact ⟨_, rfl, d, sc, ns, rfl, B.D, fun ls a H' hls ha D' s' => k _ _ ⟨d, a, ls, rfl, B.mv D' s', hls, ha⟩⟩
/-- the reader's parts -/
structure Rp (la sa aa : Addr) (ls ans : List Str) (gs : List (Str → Nat)) (H : Hp) : Prop where
  lk : LsOk ls
  lh : H la = some (.tup (sV ls))
  st : StOk ls gs
  g5 : gs.length ≤ 5
  al : ans.length = gs.length
  aw : ∀ x ∈ ans, WordOk x
  sh : RowsAt H sa ls gs
  ah : H aa = some (.lst (sV ans))
theorem Rp.mv {H H' : Hp} {d la sa aa : Addr} {ls ans : List Str} {gs : List (Str → Nat)} (B : Bs K H d sc tb ns) (R : Rp la sa aa ls ans gs H) (s : SmD d H H') : Rp la sa aa ls ans gs H' :=
  ⟨R.lk, s _ _ (B.neT R.lh) R.lh, R.st, R.g5, R.al, R.aw, B.rows R.sh s, s _ _ (B.neS R.ah) R.ah⟩
def J3 (K : PySem.W.Frag) (sc tb : Addr) (ns : List Int) : L2.St → Hp → Prop := fun σ H => ∃ d la sa aa ls ans gs, σ = [some (.ref sc), some (.ref d), some (.ref la), some (.ref sa), some (.ref aa), none, none, none, none, none, none, none, none, none, none, none, none, none, none, none] ∧ Bs K H d sc tb ns ∧ Rp la sa aa ls ans gs H
theorem st2 (L : LK P w K mg base) (hr : Room 8 (XL P w K mg base f cdv A outer s H0 E).A) : PSt (XL P w K mg base f cdv A outer s H0 E) (stm 2) (J2 K sc tb ns) (J3 K sc tb ns) := by
  refine ⟨_, ps_asg (pe_call L.lrd.ok (hr.mono (by decide)) (by rfl) L.lrd.g L.lrd.kp L.lrd.b .nil pass0 (pa_cons (pv 1) (pa_cons (pv 2) pa_nil))) (pg_tup rfl (pgs_cons (pg_name (i := 3) scLaw.nd rfl (Or.inr rfl)) (pgs_cons (pg_name (i := 4) scLaw.nd rfl (Or.inl rfl)) pgs_nil))), fun D σ H h k => ?_⟩
  obtain ⟨d, la, ls, rfl, B, hls, hla⟩ := h
  refine ⟨_, rfl, _, rfl, d, sc, la, ls, ns, rfl, B.D, hla, hls.nd, hls.len, fun gs ans t sa aa H' S g5 al aw ht hsa haa _ _ D' s' => ?_⟩
  exact ⟨t, _, rfl, .of ht, rfl, _, _, rfl, _, _, rfl, rfl, k _ _ ⟨d, la, sa, aa, ls, ans, gs, rfl, B.mv D' s', ⟨hls, s' _ _ (B.neT hla) hla, S, g5, al, aw, hsa, haa⟩⟩⟩
/-! ### the reader, the lane, the start -/
def J4 (K : PySem.W.Frag) (R : Addr) (sc tb : Addr) (ns : List Int) : L2.St → Hp → Prop := fun σ H => ∃ d la sa aa rp ls ans gs, σ = [some (.ref sc), some (.ref d), some (.ref la), some (.ref sa), some (.ref aa), some (.ref rp), none, none, none, none, none, none, none, none, none, none, none, none, none, none] ∧ Bs K H d sc tb ns ∧ Rp la sa aa ls ans gs H ∧ RdAt R H rp ls gs ans
theorem st3 (L : LK P w K mg base) (hr : Room 8 (XL P w K mg base f cdv A outer s H0 E).A) : PSt (XL P w K mg base f cdv A outer s H0 E) (stm 3) (J3 K sc tb ns) (J4 K L.R sc tb ns) := by
  refine ⟨_, ps_set (i := 5) scLaw.nd rfl (Or.inl rfl) (pe_make L.MR L.FRI (hr.mono (by decide)) (by rfl) L.TR.g L.bRI .nil pass0 (pa_cons (pv 2) (pa_cons (pv 3) (pa_cons (pv 4) pa_nil)))), fun D σ H h k => ?_⟩
  obtain ⟨d, la, sa, aa, ls, ans, gs, rfl, B, Q⟩ := h
  refine ⟨_, rfl, _, rfl, _, rfl, fun x dx nx ndx nex => ?_⟩
  have s5 : Same H (upd (upd H dx (.own x)) x (.ins L.R dx [])) := same_upd (same_upd (Same.refl _) ndx) nx
  refine ⟨x, dx, la, sa, aa, ls, gs, ans, rfl, upd_same, s5 _ _ Q.lh, Q.sh.sm s5, s5 _ _ Q.ah, Q.lk.ok, Q.lk.nd, Q.st, Q.al, Q.aw, fun H' hrd kp => ⟨rfl, ?_⟩⟩
  have s6 : Same H H' := fun b o e => kp b o (s5 _ _ e) (ne_of_none e nx)
  exact k _ _ ⟨d, la, sa, aa, x, ls, ans, gs, rfl, B.sm s6, Rp.mv B Q (SmD.of s6), hrd⟩
/-- the lane's facts -/
structure Ln (ln : Addr) (ls lane : List Str) (H : Hp) : Prop where
  ln : H ln = some (.lst (sV lane))
  sz : lane.length ≤ 6
  mem : ∀ x ∈ lane, x ∈ ls
def J5 (K : PySem.W.Frag) (R : Addr) (sc tb : Addr) (ns : List Int) : L2.St → Hp → Prop := fun σ H => ∃ d la sa aa rp ln ls ans gs lane, σ = [some (.ref sc), some (.ref d), some (.ref la), some (.ref sa), some (.ref aa), some (.ref rp), some (.ref ln), none, none, none, none, none, none, none, none, none, none, none, none, none] ∧ Bs K H d sc tb ns ∧ Rp la sa aa ls ans gs H ∧ RdAt R H rp ls gs ans ∧ Ln ln ls lane H
theorem st4 (L : LK P w K mg base) (hr : Room 8 (XL P w K mg base f cdv A outer s H0 E).A) : PSt (XL P w K mg base f cdv A outer s H0 E) (stm 4) (J4 K L.R sc tb ns) (J5 K L.R sc tb ns) := by
  refine ⟨_, ps_set (i := 6) scLaw.nd rfl (Or.inr rfl) (pe_lc (own := [("_law_turn", 18)]) (g := gName 18) (tt := tYes) (te := tCall (spPickT K) [] E0 (tCons (tVar 1) (tCons (tVar 2) tNil))) rfl scLaw.nd (pi_range1 (by rfl) L.N.range (pa_cons (pe_call L.take.ok (hr.mono (by decide)) (by rfl) L.take.g L.take.kp L.take.b .nil pass0 (pa_cons (pv 1) (pa_cons pe_int pa_nil))) pa_nil))
      (blkOk_by (N := LN) (sc := defScope sLaw) (by decide +kernel)) (fun _ _ _ _ _ => pg_name (i := 18) scLaw.nd rfl (Or.inl rfl)) (fun _ _ _ _ _ => pts_nil) (fun _ _ _ _ _ => pe_call L.pick.ok (hr.mono (by decide)) (by rfl) L.pick.g L.pick.kp L.pick.b .nil pass0 (pa_cons (pv 1) (pa_cons (pv 2) pa_nil)))), fun D σ H h k => ?_⟩
  obtain ⟨d, la, sa, aa, rp, ls, ans, gs, rfl, B, Q, R⟩ := h
  refine ⟨_, rfl, d, sc, 7, ns, rfl, B.D, by decide, fun r H1 hr1 D1 s1 => ⟨_, rfl, by omega, by omega, fun Lx hL => ?_⟩⟩
  have B1 := B.mv D1 s1
  have Q1 := Rp.mv B Q s1
  have R1 := B.rd R s1
  have nL : Lx ≠ d := D1.ne hL
  have hne : sV ls ≠ [] := fun z => by
    have h1 := Q.lk.ok.lo
    have h2 : (sV ls).length = ls.length := List.length_map ..
    rw [z] at h2
    simp at h2
    omega
  refine lc_range (lo := 0) (n := (r : Int).toNat) (fun i H' => Bs K H' d sc tb ns ∧ SmD d H1 H' ∧ ∃ lane : List Str, lane.length = i ∧ (∀ x ∈ lane, x ∈ ls) ∧ H' Lx = some (.lst (sV lane)))
    ⟨B1.sm (same_upd (Same.refl _) hL), SmD.of (same_upd (Same.refl _) hL), [], rfl, (fun x hx => by cases hx), upd_same⟩ (fun i H2 hi h => ?_) (fun H2 h => ?_)
  · obtain ⟨B2, s2, lane, hl, hm, hL2⟩ := h
    refine ⟨rfl, ?_⟩
    refine yes_of ?_
    refine ⟨_, rfl, _, rfl, d, sc, la, _, ns, rfl, B2.D, s2 _ _ (B1.neT Q1.lh) Q1.lh, hne, fun j x H3 hx D3 s3 => ?_⟩
    obtain ⟨y, hy, rfl⟩ := sV_get hx
    have s23 := s2.trans s3
    have hL3 := s3 _ _ nL hL2
    refine ⟨_, hL3, small1000 (by simp; omega), ⟨D1.put D3 s23 hL, smd_upd s23 hL _ _ (ne_of B1.t (B1.at_).choose_spec (by intro z; cases z)) B1.t⟩, smd_upd s23 hL, lane ++ [y], by simp [hl], fun x hx2 => ?_, by rw [upd_same]; simp [sV]⟩
    rcases List.mem_append.mp hx2 with z | z
    · exact hm x z
    · have e : x = y := by simpa using z
      rw [e]
      exact List.mem_of_getElem? hy
  · obtain ⟨B2, s2, lane, hl, hm, hL2⟩ := h
    exact k _ _ ⟨d, la, sa, aa, rp, Lx, ls, ans, gs, lane, rfl, B2, Rp.mv B1 Q1 s2, B1.rd R1 s2, ⟨hL2, by omega, hm⟩⟩
theorem Ln.mv {H H' : Hp} {d ln : Addr} {ls lane : List Str} (B : Bs K H d sc tb ns) (l : Ln ln ls lane H) (s : SmD d H H') : Ln ln ls lane H' := ⟨s _ _ (B.neS l.ln) l.ln, l.sz, l.mem⟩
def J6 (K : PySem.W.Frag) (R : Addr) (sc tb : Addr) (ns : List Int) : L2.St → Hp → Prop := fun σ H => ∃ d la sa aa rp ln ls ans gs lane, ∃ t : Nat, σ = [some (.ref sc), some (.ref d), some (.ref la), some (.ref sa), some (.ref aa), some (.ref rp), some (.ref ln), some (.int t), none, none, none, none, none, none, none, none, none, none, none, none] ∧ Bs K H d sc tb ns ∧ Rp la sa aa ls ans gs H ∧ RdAt R H rp ls gs ans ∧ Ln ln ls lane H ∧ t < gs.length
theorem st5 (L : LK P w K mg base) (hr : Room 8 (XL P w K mg base f cdv A outer s H0 E).A) : PSt (XL P w K mg base f cdv A outer s H0 E) (stm 5) (J5 K L.R sc tb ns) (J6 K L.R sc tb ns) := by
  refine ⟨_, ps_set (i := 7) scLaw.nd rfl (Or.inr rfl) (pe_call L.take.ok (hr.mono (by decide)) (by rfl) L.take.g L.take.kp L.take.b .nil pass0 (pa_cons (pv 1) (pa_cons (pe_callB call_len_seq (by rfl) L.N.len PySem.boot_len (pa_cons (pv 3) pa_nil)) pa_nil))), fun D σ H h k => ?_⟩
  obtain ⟨d, la, sa, aa, rp, ln, ls, ans, gs, lane, rfl, B, Q, R, l⟩ := h
  obtain ⟨qs, q1, q2, q3⟩ := Q.sh
  have h1 := Q.st.lo
  refine ⟨_, rfl, _, rfl, sa, _, rfl, .inl (.of q1), d, sc, gs.length, ns, by rw [List.length_map, q2]; rfl, B.D, by omega, fun r H1 hr1 D1 s1 => ?_⟩
  exact k _ _ ⟨d, la, sa, aa, rp, ln, ls, ans, gs, lane, r, rfl, B.mv D1 s1, Rp.mv B Q s1, B.rd R s1, Ln.mv B l s1, hr1⟩
end
end R49
set_option maxHeartbeats 4000000
/-! the law's first half: the rows behind a lane -/
namespace R49
open PySem PySem.Spec PyProof.Rows L2 GenW
/-- the states behind a lane's letters -/
def dueL (gs : List (Str → Nat)) (lane : List Str) (t : Nat) : List Int := (List.range lane.length).map fun i => ((ledM gs (lane.take (i + 1)) t : Nat) : Int)
theorem dueL_v (gs : List (Str → Nat)) (lane : List Str) (t : Nat) : ((List.range lane.length).map fun i => V.int ((ledM gs (lane.take (i + 1)) t : Nat) : Int)) = iV (dueL gs lane t) := by
  unfold dueL iV
  rw [List.map_map]
  rfl
theorem dI_refl (xs : List Int) : PyData.eqv (dI xs) (dI xs) = true := SeqAt.eqv_refl _ (lay_dI xs)
section
variable {P : Program} {w : World} {K : PySem.W.Frag} {mg : Str → Option Value} {base : Heap} {f : Addr} {cdv : Value} {A : Around} {outer : List Env} {s : Shared} {H0 : Hp} {E : XK} {sc tb : Addr} {ns : List Int}
/-- [_law_led(steps, lane[:at], tst) for at in range(1, len(lane) + 1)] -/
theorem due_comp {σ : L2.St} {H1 : Hp} {D sa ln : Addr} {ls lane : List Str} {gs : List (Str → Nat)} {t n : Nat} {tst : TE} {Qd : Hp → Prop} (hD : H1 D = none) (hsa : RowsAt H1 sa ls gs) (hln : H1 ln = some (.lst (sV lane))) (hz : lane.length ≤ 6) (hm : ∀ x ∈ lane, x ∈ ls) (hst : StOk ls gs) (ht : t < gs.length) (hn : n = lane.length)
    (h3 : ∀ x, ((wipe σ [19]).set 19 x)[3]? = some (some (.ref sa))) (h6 : ∀ x, ((wipe σ [19]).set 19 x)[6]? = some (some (.ref ln))) (h19 : ∀ x, ((wipe σ [19]).set 19 x)[19]? = some x) (hw : ∀ x, wipe ((wipe σ [19]).set 19 x) [19] = wipe σ [19])
    (h7 : ∀ x H Q, Q (.int t) H → tst ((wipe σ [19]).set 19 x) H Q) (hd : ∀ H, Same H1 H → H D = some (.lst (iV (dueL gs lane t))) → Qd H) :
    ∃ W : Nat → Nat → Hp → Prop, (∃ m, W 0 m (upd H1 D (.lst []))) ∧ ∀ i m H, W i m H →
      ((Itr 1 n).stop i H ∧ Qd H) ∨ ((Itr 1 n).go i H ∧ ∃ Nx : Hp → Prop, (∀ H', Nx H' → ∃ m', m' < m ∧ W (i + 1) m' H') ∧ ∀ x H', (Itr 1 n).yld i H x H' → gName 19 x (wipe σ [19]) H' fun σ2 H2 => wipe σ2 [19] = wipe σ [19] ∧ tYes σ2 H2 fun b H3 =>
        if b = true then tCall (spLed K) [] E0 (tCons (tVar 3) (tCons (tSl (rSlL K) (tVar 6) tNoPart (tPart (tVar 19))) (tCons tst tNil))) σ2 H3 fun y H4 => ∃ acc, H4 D = some (.lst acc) ∧ acc.length < sizeLine ∧ Nx (upd H4 D (.lst (acc ++ [y]))) else Nx H3) := by
  subst hn
  refine lcs_it (walk_range (lo := 1) (n := lane.length)) hD (iV (dueL gs lane t)) (by simp [dueL]) (by omega) (fun _ _ => True.intro) (fun i H x H' y => by rw [y.1]; exact Same.refl _) (fun i x y H H' Q hi hy s1 yy q => ?_) hd
  obtain ⟨rfl, rfl⟩ := yy
  have hy' : y = .int ((ledM gs (lane.take (i + 1)) t : Nat) : Int) := by
    simp [dueL, hi] at hy
    exact hy.symm
  subst hy'
  refine ⟨hw _, _, h3 _, _, h6 _, _, h19 _, _, rfl, ln, _, rfl, .of (s1 _ _ hln), fun p hp => ?_⟩
  have e1 : (1 : Int) + (i : Int) = ((i + 1 : Nat) : Int) := by omega
  have ec : cutV (sV lane) none (some ((1 : Int) + (i : Int))) = sV (lane.take (i + 1)) := by
    rw [e1, cut_lo (by rw [List.length_map]; omega)]
    simp [sV]
  rw [ec]
  have s2 : Same H' (upd H' p (.lst (sV (lane.take (i + 1))))) := same_upd (Same.refl _) hp
  refine h7 _ _ _ ⟨sa, p, t, ls, gs, lane.take (i + 1), rfl, hsa.sm (s1.trans s2), .of upd_same, hst, fun x hx => hm x (List.mem_of_mem_take hx), ht, q _ s2⟩
def J7 (K : PySem.W.Frag) (R : Addr) (sc tb : Addr) (ns : List Int) : L2.St → Hp → Prop := fun σ H => ∃ d la sa aa rp ln du ls ans gs lane, ∃ t : Nat, σ = [some (.ref sc), some (.ref d), some (.ref la), some (.ref sa), some (.ref aa), some (.ref rp), some (.ref ln), some (.int t), some (.ref du), none, none, none, none, none, none, none, none, none, none, none] ∧ Bs K H d sc tb ns ∧ Rp la sa aa ls ans gs H ∧ RdAt R H rp ls gs ans ∧ Ln ln ls lane H ∧ t < gs.length ∧ H du = some (.lst (iV (dueL gs lane t)))
theorem st6 (L : LK P w K mg base) (hr : Room 8 (XL P w K mg base f cdv A outer s H0 E).A) : PSt (XL P w K mg base f cdv A outer s H0 E) (stm 6) (J6 K L.R sc tb ns) (J7 K L.R sc tb ns) := by
  refine ⟨_, ps_setLc (i := 8) (own := [("_law_at", 19)]) (g := gName 19) (tt := tYes) (te := tCall (spLed K) [] E0 (tCons (tVar 3) (tCons (tSl (rSlL K) (tVar 6) tNoPart (tPart (tVar 19))) (tCons (tVar 7) tNil)))) rfl scLaw.nd rfl rfl (sw_true rfl rfl rfl (by decide +kernel))
      (pi_range2 (by rfl) L.N.range (pa_cons pe_int (pa_cons (pe_op op_add (pe_callB call_len_seq (by rfl) L.N.len PySem.boot_len (pa_cons (pv 6) pa_nil)) pe_int) pa_nil)))
      (blkOk_by (N := LN) (sc := defScope sLaw) (by decide +kernel)) (fun _ _ _ _ _ => pg_name (i := 19) scLaw.nd rfl (Or.inl rfl)) (fun _ _ _ _ _ => pts_nil)
      (fun _ _ _ _ _ => pe_call L.lled.ok (hr.mono (by decide)) (by rfl) L.lled.g L.lled.kp L.lled.b .nil pass0 (pa_cons (pv 3) (pa_cons (pe_slice sl_list (pv 6) po_none (po_some (pv 19))) (pa_cons (pv 7) pa_nil)))), fun D σ H h k => ?_⟩
  obtain ⟨d, la, sa, aa, rp, ln, ls, ans, gs, lane, t, rfl, B, Q, R, l, ht⟩ := h
  have hz := l.sz
  have hl : (sV lane).length = lane.length := List.length_map ..
  refine ⟨_, rfl, ln, _, rfl, .inl (.of l.ln), _, _, rfl, rfl, 1, _, rfl, ⟨by decide, by decide, by omega, by omega⟩, fun Dl hD => ?_⟩
  exact due_comp hD Q.sh l.ln l.sz l.mem Q.st ht (by omega) (fun _ => rfl) (fun _ => rfl) (fun _ => rfl) (fun _ => rfl) (fun _ _ _ q => ⟨_, rfl, q⟩)
    fun H2 s2 hdu => k _ _ ⟨d, la, sa, aa, rp, ln, Dl, ls, ans, gs, lane, t, rfl, B.sm s2, Rp.mv B Q (SmD.of s2), R.sm s2, Ln.mv B l (SmD.of s2), ht, hdu⟩
theorem noS : NoStop K E0 := fun _ _ _ z => z.elim
theorem st7 (L : LK P w K mg base) (hr : Room 8 (XL P w K mg base f cdv A outer s H0 E).A) : PSt (XL P w K mg base f cdv A outer s H0 E) (stm 7) (J7 K L.R sc tb ns) (J7 K L.R sc tb ns) := by
  refine ⟨_, ps_if (pt_cmpR (op_neD hr.units) (pe_listG (E := E0) (pgen_callN L.GB (hr.mono (by decide)) (by rfl) L.gB L.kB L.kbB (pa_cons (pv 5) (pa_cons (pv 6) pa_nil)) (pk_cons (pv 7) pk_nil)) passN noS (hr.mono (by decide)) (by rfl) L.N.list PyProof.Rows.boot_list) (pv 8) (nomark _)) (pss_one (ps_ret pe_bl)) pss_nil, fun D σ H h k => ?_⟩
  obtain ⟨d, la, sa, aa, rp, ln, du, ls, ans, gs, lane, t, rfl, B, Q, R, l, ht, hdu⟩ := h
  refine ⟨_, rfl, _, rfl, _, rfl, rfl, rfl, rp, ln, t, ls, gs, ans, lane, rfl, ⟨R, Q.st, l.ln, by have := l.sz; omega, l.mem, ht⟩, fun H1 s1 p hp => ?_⟩
  have s2 : Same H (upd H1 p (.lst ((List.range lane.length).map fun i => V.int ((ledM gs (lane.take (i + 1)) t : Nat) : Int)))) := same_upd s1 (s1.free hp)
  refine ⟨_, rfl, dI (dueL gs lane t), dI (dueL gs lane t), dp_iV (.of (by rw [upd_same, dueL_v])), dp_iV (.of (s2 _ _ hdu)), sh_dI _, sh_dI _, _, rfl, ?_⟩
  rw [dI_refl]
  refine iteF ?_
  exact k _ _ ⟨d, la, sa, aa, rp, ln, du, ls, ans, gs, lane, t, rfl, B.sm s2, Rp.mv B Q (SmD.of s2), R.sm s2, Ln.mv B l (SmD.of s2), ht, s2 _ _ hdu⟩
theorem st8 (L : LK P w K mg base) (hr : Room 8 (XL P w K mg base f cdv A outer s H0 E).A) : PSt (XL P w K mg base f cdv A outer s H0 E) (stm 8) (J7 K L.R sc tb ns) (J7 K L.R sc tb ns) := by
  refine ⟨_, ps_if (pt_cmpR (op_neD hr.units) (pe_listG (E := E0) (pgen_call L.GB (hr.mono (by decide)) (by rfl) L.gB L.kB L.bB L.vB (pa_cons (pv 5) (pa_cons (pv 6) pa_nil))) passN noS (hr.mono (by decide)) (by rfl) L.N.list PyProof.Rows.boot_list)
      (pe_lc (own := [("_law_at", 19)]) (g := gName 19) (tt := tYes) (te := tCall (spLed K) [] E0 (tCons (tVar 3) (tCons (tSl (rSlL K) (tVar 6) tNoPart (tPart (tVar 19))) (tCons (tC (.int 0)) tNil)))) rfl scLaw.nd
        (pi_range2 (by rfl) L.N.range (pa_cons pe_int (pa_cons (pe_op op_add (pe_callB call_len_seq (by rfl) L.N.len PySem.boot_len (pa_cons (pv 6) pa_nil)) pe_int) pa_nil)))
        (blkOk_by (N := LN) (sc := defScope sLaw) (by decide +kernel)) (fun _ _ _ _ _ => pg_name (i := 19) scLaw.nd rfl (Or.inl rfl)) (fun _ _ _ _ _ => pts_nil)
        (fun _ _ _ _ _ => pe_call L.lled.ok (hr.mono (by decide)) (by rfl) L.lled.g L.lled.kp L.lled.b .nil pass0 (pa_cons (pv 3) (pa_cons (pe_slice sl_list (pv 6) po_none (po_some (pv 19))) (pa_cons pe_int pa_nil))))) (nomark _)) (pss_one (ps_ret pe_bl)) pss_nil, fun D σ H h k => ?_⟩
  obtain ⟨d, la, sa, aa, rp, ln, du, ls, ans, gs, lane, t, rfl, B, Q, R, l, ht, hdu⟩ := h
  have h0 : 0 < gs.length := by have := Q.st.lo; omega
  have hz := l.sz
  have hl : (sV lane).length = lane.length := List.length_map ..
  refine ⟨_, rfl, _, rfl, rp, ln, 0, ls, gs, ans, lane, rfl, ⟨R, Q.st, l.ln, by omega, l.mem, h0⟩, fun H1 s1 p hp => ?_⟩
  have s2 : Same H (upd H1 p (.lst ((List.range lane.length).map fun i => V.int ((ledM gs (lane.take (i + 1)) 0 : Nat) : Int)))) := same_upd s1 (s1.free hp)
  have hp2 : (upd H1 p (.lst ((List.range lane.length).map fun i => V.int ((ledM gs (lane.take (i + 1)) 0 : Nat) : Int)))) p = some (.lst (iV (dueL gs lane 0))) := by rw [upd_same, dueL_v]
  refine ⟨_, rfl, ln, _, rfl, .inl (.of (s2 _ _ l.ln)), _, _, rfl, rfl, 1, _, rfl, ⟨by decide, by decide, by omega, by omega⟩, fun Dl hD => ?_⟩
  refine due_comp hD (Q.sh.sm s2) (s2 _ _ l.ln) l.sz l.mem Q.st h0 (by omega) (fun _ => rfl) (fun _ => rfl) (fun _ => rfl) (fun _ => rfl) (fun _ _ _ q => q) fun H3 s3 hd3 => ?_
  have s23 := s2.trans s3
  refine ⟨dI (dueL gs lane 0), dI (dueL gs lane 0), dp_iV (.of (s3 _ _ hp2)), dp_iV (.of hd3), sh_dI _, sh_dI _, _, rfl, ?_⟩
  rw [dI_refl]
  refine iteF ?_
  exact k _ _ ⟨d, la, sa, aa, rp, ln, du, ls, ans, gs, lane, t, rfl, B.sm s23, Rp.mv B Q (SmD.of s23), R.sm s23, Ln.mv B l (SmD.of s23), ht, s23 _ _ hdu⟩
/-- behind the reader's part: any values in its slots -/
def J10 (K : PySem.W.Frag) (sc tb : Addr) (ns : List Int) : L2.St → Hp → Prop := fun σ H => ∃ (d : Addr) (x2 x3 x4 x5 x6 x7 x8 : Option V), σ = [some (.ref sc), some (.ref d), x2, x3, x4, x5, x6, x7, x8, none, none, none, none, none, none, none, none, none, none, none] ∧ Bs K H d sc tb ns
theorem st9 (L : LK P w K mg base) (hr : Room 8 (XL P w K mg base f cdv A outer s H0 E).A) : PSt (XL P w K mg base f cdv A outer s H0 E) (stm 9) (J7 K L.R sc tb ns) (J10 K sc tb ns) := by
  refine ⟨_, ps_if (PW.pt (pw_or (pt_cmpR op_ne (StX.pe_callO (pv 5) L.rcall (FnOk.raw L.FRC L.bRC .nil) (hr.mono (by decide)) pass0 (pa_cons (pv 6) pa_nil))
        (pe_ix ix_list (pv 4) (pe_call L.lled.ok (hr.mono (by decide)) (by rfl) L.lled.g L.lled.kp L.lled.b .nil pass0 (pa_cons (pv 3) (pa_cons (pv 6) (pa_cons pe_int pa_nil)))) (fun _ _ => rfl)) (nomark _))
      (pw_or (pt_not (pt_val (pe_call L.lane.ok (hr.mono (by decide)) (by rfl) L.lane.g L.lane.kp L.lane.b .nil pass0 (pa_cons (pv 5) pa_nil))))
      (pw_or1 (pt_cmpR op_ne (pe_callB (call_lenOwn L.lenF L.lenI L.FRL L.bRL (hr.mono (by decide)) pass0) (by rfl) L.N.len PySem.boot_len (pa_cons (pv 5) pa_nil)) (pe_callB call_len_seq (by rfl) L.N.len PySem.boot_len (pa_cons (pv 3) pa_nil)) (nomark _)))))) (pss_one (ps_ret pe_bl)) pss_nil, fun D σ H h k => ?_⟩
  obtain ⟨d, la, sa, aa, rp, ln, du, ls, ans, gs, lane, t, rfl, B, Q, R, l, ht, hdu⟩ := h
  have h0 : 0 < gs.length := by have := Q.st.lo; omega
  have hled := led_lt Q.st (lane := lane) (s := 0) l.mem h0
  obtain ⟨dx, la', sa', aa', r1, r2, r3, r4⟩ := id R
  have ha : ans[ledM gs lane 0]? = some (ans[ledM gs lane 0]'(by rw [Q.al]; exact hled)) := by simp
  refine ⟨_, rfl, rp, rfl, _, rfl, .inr ⟨dx, _, r1⟩, ?_⟩
  refine ⟨rp, ln, ls, gs, ans, lane, _, rfl, ⟨R, Q.st, l.ln, by have := l.sz; omega, l.mem, h0⟩, ha, fun H1 s1 => ?_⟩
  refine ⟨_, rfl, _, rfl, _, rfl, sa, ln, 0, ls, gs, lane, rfl, Q.sh.sm s1, .of (s1 _ _ l.ln), Q.st, l.mem, h0, ?_⟩
  refine ⟨aa, _, _, _, rfl, rfl, .of (s1 _ _ Q.ah), atI_nat (by rw [List.getElem?_map, ha]; rfl), rfl, _, rfl, ?_⟩
  refine iteNS rfl ?_
  refine ⟨_, rfl, rp, ls, gs, ans, rfl, R.sm s1, Q.lk.z, fun H2 s2 => ⟨_, rfl, ?_⟩⟩
  refine iteF ?_
  have s12 := s1.trans s2
  obtain ⟨qs, q1, q2, q3⟩ := Q.sh.sm s12
  have g5 := Q.g5
  refine ⟨_, rfl, rp, dx, _, rfl, s12 _ _ r1, rp, ls, gs, ans, rfl, R.sm s12, gs.length, rfl, by omega, ?_⟩
  refine ⟨_, rfl, sa, _, rfl, .inl (.of q1), rfl, _, rfl, ?_⟩
  refine iteNS (by rw [List.length_map, q2]) ?_
  exact k _ _ ⟨d, _, _, _, _, _, _, _, rfl, B.sm s12⟩
end
end R49
set_option maxHeartbeats 4000000
/-! the law's second half: timetables made, added, multiplied -/
namespace R49
open PySem PySem.Spec PyProof.Rows L2 GenW
section
variable {P : Program} {w : World} {K : PySem.W.Frag} {mg : Str → Option Value} {base : Heap} {f : Addr} {cdv : Value} {A : Around} {outer : List Env} {s : Shared} {H0 : Hp} {E : XK} {sc tb : Addr} {ns : List Int}
/-- a drawn timetable -/
structure Tm (C p : Addr) (fs ps : List Int) (H : Hp) : Prop where
  at_ : TimesAt C H p fs ps
  sm : Sm fs ps
theorem Tm.mv {C p d : Addr} {fs ps : List Int} {H H' : Hp} (B : Bs K H d sc tb ns) (t : Tm C p fs ps H) (s : SmD d H H') : Tm C p fs ps H' := ⟨B.tm t.at_ s, t.sm⟩
theorem Tm.same {C p : Addr} {fs ps : List Int} {H H' : Hp} (t : Tm C p fs ps H) (s : Same H H') : Tm C p fs ps H' := ⟨t.at_.sm s, t.sm⟩
def J11 (K : PySem.W.Frag) (C sc tb : Addr) (ns : List Int) : L2.St → Hp → Prop := fun σ H => ∃ (d p1 : Addr) (f1 q1 : List Int) (x2 x3 x4 x5 x6 x7 x8 : Option V), σ = [some (.ref sc), some (.ref d), x2, x3, x4, x5, x6, x7, x8, some (.ref p1), none, none, none, none, none, none, none, none, none, none] ∧ Bs K H d sc tb ns ∧ Tm C p1 f1 q1 H
def J12 (K : PySem.W.Frag) (C sc tb : Addr) (ns : List Int) : L2.St → Hp → Prop := fun σ H => ∃ (d p1 p2 : Addr) (f1 q1 f2 q2 : List Int) (x2 x3 x4 x5 x6 x7 x8 : Option V), σ = [some (.ref sc), some (.ref d), x2, x3, x4, x5, x6, x7, x8, some (.ref p1), some (.ref p2), none, none, none, none, none, none, none, none, none] ∧ Bs K H d sc tb ns ∧ Tm C p1 f1 q1 H ∧ Tm C p2 f2 q2 H
/-- Times(_law_row(draw, _law_take(draw, 4), 9), _law_row(draw, 1 + _law_take(draw, 4), 9)) -/
def tNew (K : PySem.W.Frag) (C eT : Addr) : TE := tMake C (spTmInit C eT) [] E0 (tCons (tCall (spRow K) [] E0 (tCons (tVar 1) (tCons (tCall (spTake K) [] E0 (tCons (tVar 1) (tCons (tC (.int 4)) tNil))) (tCons (tC (.int 9)) tNil))))
  (tCons (tCall (spRow K) [] E0 (tCons (tVar 1) (tCons (tOp (rI0 fun i j => .int (i + j)) (tC (.int 1)) (tCall (spTake K) [] E0 (tCons (tVar 1) (tCons (tC (.int 4)) tNil)))) (tCons (tC (.int 9)) tNil)))) tNil))
theorem new_tm {C eT d : Addr} {σ : L2.St} {H : Hp} {Q : VK} (hd : σ[1]? = some (some (.ref d))) (B : Bs K H d sc tb ns) (k : ∀ (x : Addr) (fs ps : List Int) (H' : Hp), Bs K H' d sc tb ns → SmD d H H' → Tm C x fs ps H' → Q (.ref x) H') : tNew K C eT σ H Q := by
  refine ⟨_, hd, _, hd, d, sc, 4, ns, rfl, B.D, by decide, fun r H1 hr1 D1 s1 => ?_⟩
  refine ⟨d, sc, r, 9, ns, rfl, D1, by omega, fun xs l H2 hl hb hL D2 s2 => ?_⟩
  have s12 := s1.trans s2
  have B2 := B.mv D2 s12
  refine ⟨_, hd, _, hd, d, sc, 4, ns, rfl, D2, by decide, fun r' H3 hr3 D3 s3 => ⟨_, _, rfl, rfl, ?_⟩⟩
  have e1 : (1 : Int) + (r' : Int) = ((1 + r' : Nat) : Int) := by omega
  refine ⟨d, sc, 1 + r', 9, ns, by rw [← e1]; rfl, D3, by omega, fun ys l' H4 hl' hb' hL' D4 s4 => ?_⟩
  intro x dx nx ndx nex
  have s34 := s3.trans s4
  have hL4 := s34 _ _ (B2.neI hL) hL
  have s14 := s12.trans s34
  have B4 := B.mv D4 s14
  have hS : Sm xs ys := ⟨by omega, by omega, by omega, hb, hb'⟩
  have s5 : Same H4 (upd (upd H4 dx (.own x)) x (.ins C dx [])) := same_upd (same_upd (Same.refl _) ndx) nx
  refine ⟨x, dx, l, l', xs, ys, rfl, upd_same, s5 _ _ hL4, s5 _ _ hL', by omega, by omega, fun _ H5 tm kp => ⟨rfl, ?_⟩, fun no => absurd hS.ok (by rw [no]; decide)⟩
  have s6 : Same H4 H5 := fun b o e => kp b o (s5 _ _ e) (ne_of_none e nx)
  exact k x xs ys H5 (B4.sm s6) (s14.trans (SmD.of s6)) ⟨tm, hS⟩
theorem st10 (L : LK P w K mg base) (hr : Room 8 (XL P w K mg base f cdv A outer s H0 E).A) : PSt (XL P w K mg base f cdv A outer s H0 E) (stm 10) (J10 K sc tb ns) (J11 K L.C sc tb ns) := by
  refine ⟨tAsg (tNew K L.C L.eT) (gName 9), ps_set (i := 9) scLaw.nd rfl (Or.inr rfl) (pe_make L.MT L.FTI (hr.mono (by decide)) (by rfl) L.T.g L.bTI .nil passN (pa_cons
      (pe_call L.row.ok (hr.mono (by decide)) (by rfl) L.row.g L.row.kp L.row.b .nil pass0 (pa_cons (pv 1) (pa_cons (pe_call L.take.ok (hr.mono (by decide)) (by rfl) L.take.g L.take.kp L.take.b .nil pass0 (pa_cons (pv 1) (pa_cons pe_int pa_nil))) (pa_cons pe_int pa_nil))))
      (pa_cons (pe_call L.row.ok (hr.mono (by decide)) (by rfl) L.row.g L.row.kp L.row.b .nil pass0 (pa_cons (pv 1) (pa_cons (pe_op op_add pe_int (pe_call L.take.ok (hr.mono (by decide)) (by rfl) L.take.g L.take.kp L.take.b .nil pass0 (pa_cons (pv 1) (pa_cons pe_int pa_nil)))) (pa_cons pe_int pa_nil)))) pa_nil))), fun D σ H h k => ?_⟩
  obtain ⟨d, x2, x3, x4, x5, x6, x7, x8, rfl, B⟩ := h
  exact new_tm rfl B fun x fs ps H' B' s' t' => k _ _ ⟨d, x, fs, ps, x2, x3, x4, x5, x6, x7, x8, rfl, B', t'⟩
theorem st11 (L : LK P w K mg base) (hr : Room 8 (XL P w K mg base f cdv A outer s H0 E).A) : PSt (XL P w K mg base f cdv A outer s H0 E) (stm 11) (J11 K L.C sc tb ns) (J12 K L.C sc tb ns) := by
  refine ⟨tAsg (tNew K L.C L.eT) (gName 10), ps_set (i := 10) scLaw.nd rfl (Or.inl rfl) (pe_make L.MT L.FTI (hr.mono (by decide)) (by rfl) L.T.g L.bTI .nil passN (pa_cons
      (pe_call L.row.ok (hr.mono (by decide)) (by rfl) L.row.g L.row.kp L.row.b .nil pass0 (pa_cons (pv 1) (pa_cons (pe_call L.take.ok (hr.mono (by decide)) (by rfl) L.take.g L.take.kp L.take.b .nil pass0 (pa_cons (pv 1) (pa_cons pe_int pa_nil))) (pa_cons pe_int pa_nil))))
      (pa_cons (pe_call L.row.ok (hr.mono (by decide)) (by rfl) L.row.g L.row.kp L.row.b .nil pass0 (pa_cons (pv 1) (pa_cons (pe_op op_add pe_int (pe_call L.take.ok (hr.mono (by decide)) (by rfl) L.take.g L.take.kp L.take.b .nil pass0 (pa_cons (pv 1) (pa_cons pe_int pa_nil)))) (pa_cons pe_int pa_nil)))) pa_nil))), fun D σ H h k => ?_⟩
  obtain ⟨d, p1, f1, q1, x2, x3, x4, x5, x6, x7, x8, rfl, B, t⟩ := h
  exact new_tm rfl B fun x fs ps H' B' s' t' => k _ _ ⟨d, p1, x, f1, q1, fs, ps, x2, x3, x4, x5, x6, x7, x8, rfl, B', Tm.mv B t s', t'⟩
/-! ### both, more -/
def J13 (K : PySem.W.Frag) (C sc tb : Addr) (ns : List Int) : L2.St → Hp → Prop := fun σ H => ∃ (d p1 p2 pb : Addr) (m : Nat) (f1 q1 f2 q2 : List Int) (x2 x3 x4 x5 x6 x7 x8 : Option V), σ = [some (.ref sc), some (.ref d), x2, x3, x4, x5, x6, x7, x8, some (.ref p1), some (.ref p2), some (.ref pb), some (.int m), none, none, none, none, none, none, none] ∧ Bs K H d sc tb ns ∧ Tm C p1 f1 q1 H ∧ Tm C p2 f2 q2 H ∧
  TimesAt C H pb (sumF f1 q1 f2 q2) (sumP f1 q1 f2 q2) ∧ m < 5
theorem st12 (L : LK P w K mg base) (hr : Room 8 (XL P w K mg base f cdv A outer s H0 E).A) : PSt (XL P w K mg base f cdv A outer s H0 E) (stm 12) (J12 K L.C sc tb ns) (J13 K L.C sc tb ns) := by
  refine ⟨_, ps_par (i := 11) (j := 12) rfl scLaw.nd rfl rfl (by decide) rfl rfl (pa_cons (pe_op (op_binOwn L.sf L.addF L.addI L.FAdd L.bAdd (hr.mono (by decide)) passN) (pv 9) (pv 10)) (pa_cons (pe_call L.take.ok (hr.mono (by decide)) (by rfl) L.take.g L.take.kp L.take.b .nil pass0 (pa_cons (pv 1) (pa_cons pe_int pa_nil))) pa_nil)) rfl, fun D σ H h k => ?_⟩
  obtain ⟨d, p1, p2, f1, q1, f2, q2, x2, x3, x4, x5, x6, x7, x8, rfl, B, t1, t2⟩ := h
  obtain ⟨dx, a, b, h1, _⟩ := id t1.at_
  obtain ⟨dy, a', b', h2, _⟩ := id t2.at_
  refine ⟨_, rfl, _, rfl, p1, p2, dx, dy, _, _, rfl, rfl, h1, h2, p1, p2, f1, q1, f2, q2, rfl, t1.at_, t2.at_, t1.sm.tb, t2.sm.tb, fun _ H1 x s1 nx tm => ?_, fun no => absurd (sum_ok t1.sm t2.sm) (by rw [no]; decide)⟩
  have B1 := B.sm s1
  refine ⟨_, rfl, d, sc, 5, ns, rfl, B1.D, by decide, fun r H2 hr2 D2 s2 => ⟨_, _, rfl, ?_⟩⟩
  exact k _ _ ⟨d, p1, p2, x, r, f1, q1, f2, q2, x2, x3, x4, x5, x6, x7, x8, rfl, B1.mv D2 s2, Tm.mv B1 (t1.same s1) s2, Tm.mv B1 (t2.same s1) s2, B1.tm tm s2, hr2⟩
def J14 (K : PySem.W.Frag) (C sc tb : Addr) (ns : List Int) : L2.St → Hp → Prop := fun σ H => ∃ (d p1 p2 pb pm : Addr) (m : Nat) (f1 q1 f2 q2 : List Int) (x2 x3 x4 x5 x6 x7 x8 x14 : Option V), σ = [some (.ref sc), some (.ref d), x2, x3, x4, x5, x6, x7, x8, some (.ref p1), some (.ref p2), some (.ref pb), some (.int m), some (.ref pm), x14, none, none, none, none, none] ∧ Bs K H d sc tb ns ∧ Tm C p1 f1 q1 H ∧ Tm C p2 f2 q2 H ∧
  TimesAt C H pb (sumF f1 q1 f2 q2) (sumP f1 q1 f2 q2) ∧ TimesAt C H pm (scaled m f1) (scaled m q1) ∧ m < 5
theorem st13 (L : LK P w K mg base) (hr : Room 8 (XL P w K mg base f cdv A outer s H0 E).A) : PSt (XL P w K mg base f cdv A outer s H0 E) (stm 13) (J13 K L.C sc tb ns) (J14 K L.C sc tb ns) := by
  refine ⟨_, ps_set (i := 13) scLaw.nd rfl (Or.inl rfl) (pe_op (op_binInt L.sf L.mulF L.mulI L.mulR L.mul1 L.mul2 L.mul3 L.FMul L.bMul (hr.mono (by decide)) passN) (pv 9) (pv 12)), fun D σ H h k => ?_⟩
  obtain ⟨d, p1, p2, pb, m, f1, q1, f2, q2, x2, x3, x4, x5, x6, x7, x8, rfl, B, t1, t2, tb2, hm⟩ := h
  obtain ⟨dx, a, b, h1, _⟩ := id t1.at_
  refine ⟨_, rfl, _, rfl, p1, dx, _, _, rfl, rfl, h1, p1, m, f1, q1, rfl, t1.at_, t1.sm.tb, by omega, by omega, fun _ H1 x s1 nx tm => ?_, fun no => absurd (scaled_ok (m := m) t1.sm (by omega) (by omega)) (by rw [no]; decide)⟩
  exact k _ _ ⟨d, p1, p2, pb, x, m, f1, q1, f2, q2, x2, x3, x4, x5, x6, x7, x8, none, rfl, B.sm s1, t1.same s1, t2.same s1, tb2.sm s1, tm, hm⟩
end
end R49
set_option maxHeartbeats 4000000
/-! the law's second half: every tick; lengths; equality -/
namespace R49
open PySem PySem.Spec PyProof.Rows L2 GenW
section
variable {P : Program} {w : World} {K : PySem.W.Frag} {mg : Str → Option Value} {base : Heap} {f : Addr} {cdv : Value} {A : Around} {outer : List Env} {s : Shared} {H0 : Hp} {E : XK} {sc tb : Addr} {ns : List Int}
theorem st14 (L : LK P w K mg base) (hr : Room 8 (XL P w K mg base f cdv A outer s H0 E).A) : PSt (XL P w K mg base f cdv A outer s H0 E) (stm 14) (J14 K L.C sc tb ns) (J14 K L.C sc tb ns) := by
  refine ⟨_, ps_for PassesOwn.never rfl (pi_list (pe_op op_cat (pe_listRg rfl (by rfl) L.N.list (prg_1 (by rfl) L.N.range pe_int)) (pe_lst (pa_cons (pe_op op_add (pe_op op_pow pe_int pe_int) (pe_call L.take.ok (hr.mono (by decide)) (by rfl) L.take.g L.take.kp L.take.b .nil pass0 (pa_cons (pv 1) (pa_cons pe_int pa_nil)))) pa_nil)))) (pg_name (i := 14) scLaw.nd rfl (Or.inl rfl))
    (pss_one (ps_if (PW.pt (pw_or (pt_cmpR op_ne (pe_subOwn (pv 11) (pv 14) L.giF L.giN L.giI L.FGi L.bGi (hr.mono (by decide)) pass0) (pe_op op_add (pe_subOwn (pv 9) (pv 14) L.giF L.giN L.giI L.FGi L.bGi (hr.mono (by decide)) pass0) (pe_meth (pv 10) L.T.cl L.at_.m L.at_.ok (hr.mono (by decide)) L.at_.b .nil pass0 (pa_cons (pv 14) pa_nil))) (nomark _))
      (pw_or1 (pt_cmpR op_ne (pe_meth (pv 13) L.T.cl L.at_.m L.at_.ok (hr.mono (by decide)) L.at_.b .nil pass0 (pa_cons (pv 14) pa_nil)) (pe_op op_mul (pv 12) (pe_subOwn (pv 9) (pv 14) L.giF L.giN L.giI L.FGi L.bGi (hr.mono (by decide)) pass0)) (nomark _))))) (pss_one (ps_ret pe_bl)) pss_nil)), fun D σ H h k => ?_⟩
  obtain ⟨d, p1, p2, pb, pm, m, f1, q1, f2, q2, x2, x3, x4, x5, x6, x7, x8, x14, rfl, B, t1, t2, tb2, tm2, hm⟩ := h
  refine ⟨_, rfl, RgOk.of_le (by decide) (by decide) (by decide) (by decide), fun l1 hl1 => ?_⟩
  have s1 : Same H (upd H l1 (.lst (rgV 0 20))) := same_upd (Same.refl _) hl1
  have B1 := B.sm s1
  refine ⟨_, _, rfl, rfl, ⟨by decide, by decide, by decide⟩, _, rfl, d, sc, 24, ns, rfl, B1.D, by decide, fun r H2 hr2 D2 s2 => ⟨_, _, rfl, rfl, (by show 1 ≤ sizeLine; decide), fun l2 hl2 => ?_⟩⟩
  have B2 := B1.mv D2 s2
  have n1d : l1 ≠ d := B.D.ne hl1
  have h1 : H2 l1 = some (.lst (rgV 0 20)) := s2 _ _ n1d upd_same
  have e9 : (10 : Int) ^ Int.toNat 9 + (r : Int) = ((1000000000 + r : Nat) : Int) := by
    have : (10 : Int) ^ Int.toNat 9 = 1000000000 := by decide
    omega
  show rCat (.ref l1) (.ref l2) (upd H2 l2 (.lst [.int ((10 : Int) ^ Int.toNat 9 + (r : Int))])) _
  rw [e9]
  have s3 : Same H2 (upd H2 l2 (.lst [.int ((1000000000 + r : Nat) : Int)])) := same_upd (Same.refl _) hl2
  refine ⟨l1, l2, _, _, rfl, rfl, s3 _ _ h1, upd_same, by rw [rgV_length, sizeLine_eq]; simp, fun l3 hl3 => ?_⟩
  have s4 : Same (upd H2 l2 (.lst [.int ((1000000000 + r : Nat) : Int)])) (upd (upd H2 l2 (.lst [.int ((1000000000 + r : Nat) : Int)])) l3 (.lst (rgV 0 20 ++ [.int ((1000000000 + r : Nat) : Int)]))) := same_upd (Same.refl _) hl3
  have hl4 : (upd (upd H2 l2 (.lst [.int ((1000000000 + r : Nat) : Int)])) l3 (.lst (rgV 0 20 ++ [.int ((1000000000 + r : Nat) : Int)]))) l3 = some (.lst (rgV 0 20 ++ [.int ((1000000000 + r : Nat) : Int)])) := upd_same
  have sA : SmD d H _ := (SmD.of s1).trans (s2.trans (SmD.of (s3.trans s4)))
  have B4 : Bs K _ d sc tb ns := B2.sm (s3.trans s4)
  have T1 := Tm.mv B t1 sA
  have T2 := Tm.mv B t2 sA
  have Tb2 := B.tm tb2 sA
  have Tm2 := B.tm tm2 sA
  generalize upd (upd H2 l2 (.lst [.int ((1000000000 + r : Nat) : Int)])) l3 (.lst (rgV 0 20 ++ [.int ((1000000000 + r : Nat) : Int)])) = H4 at hl4 B4 T1 T2 Tb2 Tm2 ⊢
  obtain ⟨dx1, a1, b1, e1, _⟩ := id T1.at_
  obtain ⟨dx2, a2, b2, e2, _⟩ := id T2.at_
  obtain ⟨dxb, ab, bb, eb, _⟩ := id Tb2
  obtain ⟨dxm, am, bm, em, _⟩ := id Tm2
  have neb : sumP f1 q1 f2 q2 ≠ [] := fun z => by
    have h1 := sumP_len (f1 := f1) (p1 := q1) (f2 := f2) (p2 := q2)
    have h2 := sumM_pos t1.sm.tb t2.sm.tb
    rw [z] at h1
    simp at h1
    omega
  have nem : scaled (m : Int) q1 ≠ [] := (scaled_tb (m := m) t1.sm).n
  refine ⟨l3, rfl, ⟨_, .of hl4⟩, for_list (K := K) (a := l3) (xs := rgV 0 20 ++ [.int ((1000000000 + r : Nat) : Int)]) (fun i σ H' => ∃ x14, σ = [some (.ref sc), some (.ref d), x2, x3, x4, x5, x6, x7, x8, some (.ref p1), some (.ref p2), some (.ref pb), some (.int m), some (.ref pm), x14, none, none, none, none, none] ∧ H' = H4) ⟨_, rfl, rfl⟩ (fun i σ H' _ ⟨_, _, e⟩ => by rw [e]; exact .of hl4) ?_ ?_⟩
  · rintro i x σ H' hx ⟨x14, rfl, rfl⟩
    obtain ⟨t, rfl⟩ : ∃ t : Nat, x = .int (t : Int) := by
      have hmem := List.mem_of_getElem? hx
      rcases List.mem_append.mp hmem with z | z
      · unfold rgV at z
        obtain ⟨j, _, rfl⟩ := List.mem_map.mp z
        exact ⟨j, by simp⟩
      · exact ⟨1000000000 + r, by simpa using z⟩
    refine ⟨_, rfl, _, rfl, pb, dxb, _, rfl, eb, pb, t, _, _, rfl, Tb2, neb, ?_⟩
    refine ⟨_, rfl, _, rfl, p1, dx1, _, rfl, e1, p1, t, f1, q1, rfl, T1.at_, T1.sm.ne, ?_⟩
    refine ⟨_, rfl, p2, dx2, _, rfl, e2, tmF_no _ _ (by decide +kernel) (by decide +kernel), _, rfl, p2, t, f2, q2, rfl, T2.at_, T2.sm.ne, _, _, rfl, rfl, rfl, _, rfl, ?_⟩
    refine iteNS (congrArg V.int (num_sum t1.sm.tb t2.sm.tb t)) ?_
    refine ⟨_, rfl, pm, dxm, _, rfl, em, tmF_no _ _ (by decide +kernel) (by decide +kernel), _, rfl, pm, t, _, _, rfl, Tm2, nem, ?_⟩
    refine ⟨_, rfl, _, rfl, _, rfl, p1, dx1, _, rfl, e1, p1, t, f1, q1, rfl, T1.at_, T1.sm.ne, _, _, rfl, rfl, .inl ⟨by omega, by omega⟩, rfl, _, rfl, ?_⟩
    refine iteNS (congrArg V.int (by rw [num_scaled, Int.mul_comm])) ?_
    exact ⟨_, rfl, rfl⟩
  · rintro σ H' ⟨x14, rfl, rfl⟩
    exact k _ _ ⟨d, p1, p2, pb, pm, m, f1, q1, f2, q2, x2, x3, x4, x5, x6, x7, x8, x14, rfl, B4, T1, T2, Tb2, Tm2, hm⟩
/-- the rest: two timetables, any values in the other slots -/
def J16 (K : PySem.W.Frag) (C sc tb : Addr) (ns : List Int) : L2.St → Hp → Prop := fun σ H => ∃ (d p1 p2 : Addr) (f1 q1 f2 q2 : List Int) (x2 x3 x4 x5 x6 x7 x8 x11 x12 x13 x14 : Option V), σ = [some (.ref sc), some (.ref d), x2, x3, x4, x5, x6, x7, x8, some (.ref p1), some (.ref p2), x11, x12, x13, x14, none, none, none, none, none] ∧ Bs K H d sc tb ns ∧ Tm C p1 f1 q1 H ∧ Tm C p2 f2 q2 H
theorem eqT_refl (fs ps : List Int) : eqT fs ps fs ps = true := SeqAt.eqv_refl _ (lay_two (lay_dI fs) (lay_dI ps))
theorem eqT_front {f1 q1 f2 q2 : List Int} (h : eqT f1 q1 f2 q2 = true) : PyData.eqv (dI f1) (dI f2) = true := by
  have h : (PyData.eqv (dI f1) (dI f2) && (PyData.eqv (dI q1) (dI q2) && true)) = true := h
  exact (Bool.and_eq_true_iff.mp h).1
theorem st15 (L : LK P w K mg base) (hr : Room 8 (XL P w K mg base f cdv A outer s H0 E).A) : PSt (XL P w K mg base f cdv A outer s H0 E) (stm 15) (J14 K L.C sc tb ns) (J16 K L.C sc tb ns) := by
  refine ⟨_, ps_if (PW.pt (pw_or (pt_cmpR op_ne (pe_callB call_len_seq (by rfl) L.N.len PySem.boot_len (pa_cons (pe_fld (pv 11) rfl) pa_nil)) (pe_callB (call_max2 rfl) (by rfl) L.N.max PyProof.Rows.boot_max (pa_cons (pe_callB call_len_seq (by rfl) L.N.len PySem.boot_len (pa_cons (pe_fld (pv 9) rfl) pa_nil)) (pa_cons (pe_callB call_len_seq (by rfl) L.N.len PySem.boot_len (pa_cons (pe_fld (pv 10) rfl) pa_nil)) pa_nil))) (nomark _))
      (pw_or (pt_cmpR (op_neOwn L.nf L.neF L.T.im L.eqF L.eqI L.FEq L.bEq (hr.mono (by decide)) pass0) (pv 11) (pe_op (op_binOwn L.sf L.addF L.addI L.FAdd L.bAdd (hr.mono (by decide)) passN) (pv 10) (pv 9)) (nomark _))
      (pw_or1 (PW.pt (pw_and (pt_cmpR (op_eqOwn L.nf L.eqF L.eqI L.FEq L.bEq (hr.mono (by decide)) pass0) (pv 9) (pv 10) (nomark _)) (pw_and1 (pt_cmpR (op_neD hr.units) (pe_fld (pv 9) rfl) (pe_fld (pv 10) rfl) (nomark _))))))))) (pss_one (ps_ret pe_bl)) pss_nil, fun D σ H h k => ?_⟩
  obtain ⟨d, p1, p2, pb, pm, m, f1, q1, f2, q2, x2, x3, x4, x5, x6, x7, x8, x14, rfl, B, t1, t2, tb2, tm2, hm⟩ := h
  obtain ⟨dx1, a1, b1, e1, e1a, e1b⟩ := id t1.at_
  obtain ⟨dx2, a2, b2, e2, e2a, e2b⟩ := id t2.at_
  obtain ⟨dxb, ab, bb, eb, eba, ebb⟩ := id tb2
  have T := L.T
  refine ⟨_, rfl, pb, L.C, dxb, _, _, rfl, eb, T.cl, T.nF, tmF_front _ _, ab, _, rfl, .inl (.of eba), ?_⟩
  refine ⟨_, rfl, p1, L.C, dx1, _, _, rfl, e1, T.cl, T.nF, tmF_front _ _, a1, _, rfl, .inl (.of e1a), _, rfl, p2, L.C, dx2, _, _, rfl, e2, T.cl, T.nF, tmF_front _ _, a2, _, rfl, .inl (.of e2a), _, _, rfl, rfl, _, rfl, ?_⟩
  refine iteNS (congrArg V.int ?_) ?_
  · rw [List.length_map, List.length_map, List.length_map, sumF_len]
    unfold sumL
    split <;> omega
  refine ⟨_, rfl, _, rfl, _, rfl, p2, p1, dx2, dx1, _, _, rfl, rfl, e2, e1, p2, p1, f2, q2, f1, q1, rfl, t2.at_, t1.at_, t2.sm.tb, t1.sm.tb, fun _ H1 z s1 nz tz => ?_, fun no => absurd (sum_ok t2.sm t1.sm) (by rw [no]; decide)⟩
  obtain ⟨dxz, az, bz, ez, _⟩ := id tz
  refine ⟨pb, z, dxb, dxz, _, _, rfl, rfl, s1 _ _ eb, ez, pb, z, _, _, _, _, rfl, tb2.sm s1, tz, fun H2 s2 => ⟨_, rfl, _, rfl, ?_⟩⟩
  rw [sumF_comm f2 q2 f1 q1, sumP_comm f2 q2 f1 q1, eqT_refl]
  refine iteF ?_
  have s12 := s1.trans s2
  have fin : ∀ {H' : Hp}, Same H H' → D.nx [some (.ref sc), some (.ref d), x2, x3, x4, x5, x6, x7, x8, some (.ref p1), some (.ref p2), some (.ref pb), some (.int m), some (.ref pm), x14, none, none, none, none, none] H' := fun s' => k _ _ ⟨d, p1, p2, f1, q1, f2, q2, x2, x3, x4, x5, x6, x7, x8, _, _, _, x14, rfl, B.sm s', t1.same s', t2.same s'⟩
  refine ⟨_, rfl, _, rfl, p1, p2, dx1, dx2, _, _, rfl, rfl, s12 _ _ e1, s12 _ _ e2, p1, p2, f1, q1, f2, q2, rfl, t1.at_.sm s12, t2.at_.sm s12, fun H3 s3 => ⟨_, rfl, ?_⟩⟩
  have s13 := s12.trans s3
  cases c : eqT f1 q1 f2 q2 with
  | false => exact iteF (fin s13)
  | true =>
    refine iteT ?_
    refine ⟨_, rfl, p1, L.C, dx1, _, _, rfl, s13 _ _ e1, T.cl, T.nF, tmF_front _ _, _, rfl, p2, L.C, dx2, _, _, rfl, s13 _ _ e2, T.cl, T.nF, tmF_front _ _, dI f1, dI f2, dp_iV (.of (s13 _ _ e1a)), dp_iV (.of (s13 _ _ e2a)), sh_dI _, sh_dI _, _, rfl, ?_⟩
    rw [eqT_front c]
    exact iteF (fin s13)
end
end R49
set_option maxHeartbeats 4000000
/-! the law's second half: lines, first ticks -/
namespace R49
open PySem PySem.Spec PyProof.Rows L2 GenW
/-! ### lists of texts as data -/
theorem strOk_append (a b : Str) : PyData.strOk (a ++ b) = (PyData.strOk a && PyData.strOk b) := by
  unfold PyData.strOk
  rw [PySem.Str.cps_append, Array.all_append]
theorem wide_str_all : (List.range 200).all (fun n => PyData.strOk (wideT (n : Nat) 5) && PyData.strOk (wideT (n : Nat) 6) && PyData.strOk (wideT (n : Nat) 7)) = true := by decide +kernel
theorem wide_str {a : Int} (h0 : 0 ≤ a) (h1 : a < 200) : PyData.strOk (wideT a 5) = true ∧ PyData.strOk (wideT a 6) = true ∧ PyData.strOk (wideT a 7) = true := by
  obtain ⟨n, rfl⟩ := Int.eq_ofNat_of_zero_le h0
  have h := List.all_eq_true.mp wide_str_all n (List.mem_range.mpr (by omega))
  simp only [Bool.and_eq_true] at h
  exact ⟨h.1.1, h.1.2, h.2⟩
theorem line_str {f1 p1 f2 p2 : List Int} {n t : Nat} (hn : n ≤ 100) (h : LineOk f1 p1 f2 p2 n) (ht : t < n) : PyData.strOk (lineT f1 p1 f2 p2 t) = true := by
  obtain ⟨⟨w1, w2⟩, ⟨w3, w4⟩, w5⟩ := h t ht
  have e1 := (wide_str (a := (t : Int)) (by omega) (by omega)).2.1
  have e2 := (wide_str w1 w2).1
  have e3 := (wide_str w3 w4).1
  have e4 := (wide_str (lg_nonneg f1 p1 f2 p2 (t + 1)) w5).2.2
  have e5 : PyData.strOk (" " : Str) = true := by decide +kernel
  have e6 : PyData.strOk (markT f1 p1 f2 p2 t) = true := by
    unfold markT
    split <;> decide +kernel
  unfold lineT
  rw [strOk_append, strOk_append, strOk_append, strOk_append, strOk_append, e1, e2, e3, e4, e5, e6]
  rfl
def dS (xs : List Str) : PyData := .list (xs.map PyData.str)
theorem dpAll_sV {K : PySem.W.Frag} {H : Hp} : ∀ xs : List Str, DpAll K H (sV xs) (xs.map PyData.str)
  | [] => .nil
  | x :: xs => .cons (.str x) (dpAll_sV xs)
theorem dp_sV {K : PySem.W.Frag} {H : Hp} {a : Addr} {xs : List Str} (h : SqL K H a (sV xs)) : Dp K H (.ref a) (dS xs) := .lst h (dpAll_sV xs)
theorem lay_strs : ∀ xs : List Str, (∀ x ∈ xs, PyData.strOk x = true) → PyData.canLayAll0 (xs.map PyData.str) = true
  | [], _ => rfl
  | x :: xs, h => by
    show (PyData.strOk x && PyData.canLayAll0 (xs.map PyData.str)) = true
    rw [h x List.mem_cons_self, lay_strs xs fun y hy => h y (List.mem_cons_of_mem _ hy)]
    rfl
theorem deep_strs : ∀ xs : List Str, PyData.depthAll (xs.map PyData.str) = 0
  | [] => rfl
  | x :: xs => by
    show max (PyData.depth (.str x)) (PyData.depthAll (xs.map PyData.str)) = 0
    rw [deep_strs xs]
    rfl
theorem lay_dS {xs : List Str} (h : ∀ x ∈ xs, PyData.strOk x = true) : PyData.canLay0 (dS xs) = true := lay_strs xs h
theorem sh_dS {xs : List Str} (h : ∀ x ∈ xs, PyData.strOk x = true) : SeqAt.shaped (dS xs) = true := by
  unfold SeqAt.shaped
  rw [lay_dS h, show PyData.depth (dS xs) = PyData.depthAll (xs.map PyData.str) + 1 from rfl, deep_strs]
  rfl
theorem dS_refl {xs : List Str} (h : ∀ x ∈ xs, PyData.strOk x = true) : PyData.eqv (dS xs) (dS xs) = true := SeqAt.eqv_refl _ (lay_dS h)
/-- the lines as texts -/
def linesL (f1 p1 f2 p2 : List Int) (f n : Nat) : List Str := (List.range n).map fun i => lineT f1 p1 f2 p2 (f + i)
theorem linesL_v (f1 p1 f2 p2 : List Int) (f n : Nat) : ((List.range n).map fun i => V.str (lineT f1 p1 f2 p2 (f + i))) = sV (linesL f1 p1 f2 p2 f n) := by
  unfold linesL sV
  rw [List.map_map]
  rfl
theorem linesL_str {f1 p1 f2 p2 : List Int} {f n : Nat} (hn : f + n ≤ 100) (h : LineOk f1 p1 f2 p2 (f + n)) : ∀ x ∈ linesL f1 p1 f2 p2 f n, PyData.strOk x = true := fun x hx => by
  unfold linesL at hx
  obtain ⟨i, hi, rfl⟩ := List.mem_map.mp hx
  exact line_str hn h (by have := List.mem_range.mp hi; omega)
section
variable {P : Program} {w : World} {K : PySem.W.Frag} {mg : Str → Option Value} {base : Heap} {f : Addr} {cdv : Value} {A : Around} {outer : List Env} {s : Shared} {H0 : Hp} {E : XK} {sc tb : Addr} {ns : List Int}
theorem st16 (L : LK P w K mg base) (hr : Room 8 (XL P w K mg base f cdv A outer s H0 E).A) : PSt (XL P w K mg base f cdv A outer s H0 E) (stm 16) (J16 K L.C sc tb ns) (J16 K L.C sc tb ns) := by
  refine ⟨_, ps_if (PW.pt (pw_or (pt_cmpR (op_neD hr.units) (pe_listG (E := E0) (pgen_callN L.GLn (hr.mono (by decide)) (by rfl) L.gLn L.kLn L.kbLn (pa_cons (pv 9) (pa_cons (pv 10) (pa_cons pe_int pa_nil))) (pk_cons pe_int pk_nil)) passN noS (hr.mono (by decide)) (by rfl) L.N.list PyProof.Rows.boot_list)
        (pe_call L.llines.ok (hr.mono (by decide)) (by rfl) L.llines.g L.llines.kp L.llines.b .nil pass0 (pa_cons (pv 9) (pa_cons (pv 10) (pa_cons pe_int (pa_cons pe_int pa_nil))))) (nomark _))
      (pw_or1 (pt_cmpR (op_neD hr.units) (pe_listG (E := E0) (pgen_call L.GLn (hr.mono (by decide)) (by rfl) L.gLn L.kLn L.bLn L.vLn (pa_cons (pv 10) (pa_cons (pv 9) (pa_cons pe_int pa_nil)))) passN noS (hr.mono (by decide)) (by rfl) L.N.list PyProof.Rows.boot_list)
        (pe_call L.llines.ok (hr.mono (by decide)) (by rfl) L.llines.g L.llines.kp L.llines.b .nil pass0 (pa_cons (pv 10) (pa_cons (pv 9) (pa_cons pe_int (pa_cons pe_int pa_nil))))) (nomark _))))) (pss_one (ps_ret pe_bl)) pss_nil, fun D σ H h k => ?_⟩
  obtain ⟨d, p1, p2, f1, q1, f2, q2, x2, x3, x4, x5, x6, x7, x8, x11, x12, x13, x14, rfl, B, t1, t2⟩ := h
  have ok1 : LineOk f1 q1 f2 q2 (2 + 9) := lines_ok t1.sm t2.sm (by decide)
  have ok2 : LineOk f2 q2 f1 q1 (0 + 4) := lines_ok t2.sm t1.sm (by decide)
  have str1 := linesL_str (f := 2) (n := 9) (by decide) ok1
  have str2 := linesL_str (f := 0) (n := 4) (by decide) ok2
  refine ⟨_, rfl, _, rfl, rfl, rfl, p1, p2, 9, 2, f1, q1, f2, q2, rfl, by decide, t1.at_, t2.at_, t1.sm.ne, t2.sm.ne, ok1, fun H1 s1 a ha => ?_⟩
  have s2 : Same H (upd H1 a (.lst ((List.range 9).map fun i => V.str (lineT f1 q1 f2 q2 (2 + i))))) := same_upd s1 (s1.free ha)
  have ha2 : (upd H1 a (.lst ((List.range 9).map fun i => V.str (lineT f1 q1 f2 q2 (2 + i))))) a = some (.lst (sV (linesL f1 q1 f2 q2 2 9))) := by rw [upd_same, linesL_v]
  refine ⟨_, rfl, _, rfl, p1, p2, 2, 9, f1, q1, f2, q2, rfl, by decide, t1.at_.sm s2, t2.at_.sm s2, t1.sm.ne, t2.sm.ne, ok1, fun H3 b s3 hb => ?_⟩
  rw [linesL_v] at hb
  refine ⟨dS (linesL f1 q1 f2 q2 2 9), dS (linesL f1 q1 f2 q2 2 9), dp_sV (.of (s3 _ _ ha2)), dp_sV (.of hb), sh_dS str1, sh_dS str1, _, rfl, ?_⟩
  rw [dS_refl str1]
  refine iteF ?_
  have s23 := s2.trans s3
  refine ⟨_, rfl, _, rfl, p2, p1, 4, 0, f2, q2, f1, q1, rfl, by decide, t2.at_.sm s23, t1.at_.sm s23, t2.sm.ne, t1.sm.ne, ok2, fun H4 s4 a2 ha4 => ?_⟩
  have s5 : Same H3 (upd H4 a2 (.lst ((List.range 4).map fun i => V.str (lineT f2 q2 f1 q1 (0 + i))))) := same_upd s4 (s4.free ha4)
  have ha5 : (upd H4 a2 (.lst ((List.range 4).map fun i => V.str (lineT f2 q2 f1 q1 (0 + i))))) a2 = some (.lst (sV (linesL f2 q2 f1 q1 0 4))) := by rw [upd_same, linesL_v]
  have s25 := s23.trans s5
  refine ⟨_, rfl, _, rfl, p2, p1, 0, 4, f2, q2, f1, q1, rfl, by decide, t2.at_.sm s25, t1.at_.sm s25, t2.sm.ne, t1.sm.ne, ok2, fun H6 b2 s6 hb6 => ?_⟩
  rw [linesL_v] at hb6
  refine ⟨dS (linesL f2 q2 f1 q1 0 4), dS (linesL f2 q2 f1 q1 0 4), dp_sV (.of (s6 _ _ ha5)), dp_sV (.of hb6), sh_dS str2, sh_dS str2, _, rfl, ?_⟩
  rw [dS_refl str2]
  refine iteF ?_
  have s26 := s25.trans s6
  exact k _ _ ⟨d, p1, p2, f1, q1, f2, q2, x2, x3, x4, x5, x6, x7, x8, x11, x12, x13, x14, rfl, B.sm s26, t1.same s26, t2.same s26⟩
def J17 (K : PySem.W.Frag) (C sc tb : Addr) (ns : List Int) : L2.St → Hp → Prop := fun σ H => ∃ (d p1 p2 : Addr) (t : Nat) (f1 q1 f2 q2 : List Int) (x2 x3 x4 x5 x6 x8 x11 x12 x13 x14 : Option V), σ = [some (.ref sc), some (.ref d), x2, x3, x4, x5, x6, some (.int t), x8, some (.ref p1), some (.ref p2), x11, x12, x13, x14, none, none, none, none, none] ∧ t < 9 ∧ Bs K H d sc tb ns ∧ Tm C p1 f1 q1 H ∧ Tm C p2 f2 q2 H
theorem st17 (L : LK P w K mg base) (hr : Room 8 (XL P w K mg base f cdv A outer s H0 E).A) : PSt (XL P w K mg base f cdv A outer s H0 E) (stm 17) (J16 K L.C sc tb ns) (J17 K L.C sc tb ns) := by
  refine ⟨_, ps_set (i := 7) scLaw.nd rfl (Or.inr rfl) (pe_call L.take.ok (hr.mono (by decide)) (by rfl) L.take.g L.take.kp L.take.b .nil pass0 (pa_cons (pv 1) (pa_cons pe_int pa_nil))), fun D σ H h k => ?_⟩
  obtain ⟨d, p1, p2, f1, q1, f2, q2, x2, x3, x4, x5, x6, x7, x8, x11, x12, x13, x14, rfl, B, t1, t2⟩ := h
  exact ⟨_, rfl, d, sc, 9, ns, rfl, B.D, by decide, fun r H1 hr1 D1 s1 => k _ _ ⟨d, p1, p2, r, f1, q1, f2, q2, x2, x3, x4, x5, x6, x8, x11, x12, x13, x14, rfl, hr1, B.mv D1 s1, Tm.mv B t1 s1, Tm.mv B t2 s1⟩⟩
/-! ### pairs as data -/
def dP (t : Nat) (fs ps : List Int) : PyData := .list ((List.range 6).map fun j => .tuple [.int ((t + j : Nat) : Int), .int (numAt fs ps (t + j))])
theorem dpAll_refs {K : PySem.W.Frag} {H : Hp} : ∀ {qs : List Addr} {ds : List PyData}, qs.length = ds.length → (∀ (j : Nat) (q : Addr) (d : PyData), qs[j]? = some q → ds[j]? = some d → Dp K H (.ref q) d) → DpAll K H (qs.map V.ref) ds
  | [], [], _, _ => .nil
  | [], _ :: _, h, _ => by cases h
  | _ :: _, [], h, _ => by cases h
  | q :: qs, d :: ds, h, k => .cons (k 0 q d rfl rfl) (dpAll_refs (by simpa using h) fun j q' d' e1 e2 => k (j + 1) q' d' (by simpa using e1) (by simpa using e2))
theorem dp_pairs {K : PySem.W.Frag} {H : Hp} {a : Addr} {qs : List Addr} {t : Nat} {fs ps : List Int} (hl : qs.length = 6) (ha : H a = some (.lst (qs.map V.ref))) (hq : ∀ j q, qs[j]? = some q → H q = some (.tup [.int ((t + j : Nat) : Int), .int (numAt fs ps (t + j))])) : Dp K H (.ref a) (dP t fs ps) := by
  refine .lst (.of ha) (dpAll_refs (by simp [hl]) fun j q d e1 e2 => ?_)
  have hj : j < 6 := by
    have := (List.getElem?_eq_some_iff.mp e1).1
    omega
  have ed : d = .tuple [.int ((t + j : Nat) : Int), .int (numAt fs ps (t + j))] := by
    simp [hj] at e2
    exact e2.symm
  subst ed
  exact .tup (.of (hq j q e1)) (.cons (.int _) (.cons (.int _) .nil))
theorem sh_dP (t : Nat) (fs ps : List Int) : SeqAt.shaped (dP t fs ps) = true := rfl
theorem dP_refl (t : Nat) (fs ps : List Int) : PyData.eqv (dP t fs ps) (dP t fs ps) = true := SeqAt.eqv_refl _ rfl
theorem st18 (L : LK P w K mg base) (hr : Room 8 (XL P w K mg base f cdv A outer s H0 E).A) : PSt (XL P w K mg base f cdv A outer s H0 E) (stm 18) (J17 K L.C sc tb ns) (J17 K L.C sc tb ns) := by
  refine ⟨_, ps_if (pt_cmpR (op_neD hr.units) (pe_call L.first.ok (hr.mono (by decide)) (by rfl) L.first.g L.first.kp L.first.b .nil pass0 (pa_cons (pv 9) (pa_cons (pv 7) (pa_cons pe_int pa_nil))))
      (pe_lc (own := [("_law_tick", 14)]) (g := gName 14) (tt := tYes) (te := tTup (tCons (tVar 14) (tCons (tMeth L.C "at" (spTmAt L.C) [] E0 (tVar 9) (tCons (tVar 14) tNil)) tNil))) rfl scLaw.nd
        (pi_range2 (by rfl) L.N.range (pa_cons (pv 7) (pa_cons (pe_op op_add (pv 7) pe_int) pa_nil))) (blkOk_by (N := LN) (sc := defScope sLaw) (by decide +kernel)) (fun _ _ _ _ _ => pg_name (i := 14) scLaw.nd rfl (Or.inl rfl)) (fun _ _ _ _ _ => pts_nil)
        (fun _ _ _ _ _ => pe_tup (pa_cons (pv 14) (pa_cons (pe_meth (pv 9) L.T.cl L.at_.m L.at_.ok (hr.mono (by decide)) L.at_.b .nil pass0 (pa_cons (pv 14) pa_nil)) pa_nil)))) (nomark _)) (pss_one (ps_ret pe_bl)) pss_nil, fun D σ H h k => ?_⟩
  obtain ⟨d, p1, p2, t, f1, q1, f2, q2, x2, x3, x4, x5, x6, x8, x11, x12, x13, x14, rfl, ht9, B, t1, t2⟩ := h
  refine ⟨_, rfl, _, rfl, p1, t, f1, q1, rfl, t1.at_, t1.sm.ne, fun qs a H1 hl hq ha s1 => ?_⟩
  have T1 := t1.same s1
  obtain ⟨dx, aa, bb, e1, _⟩ := id T1.at_
  have en : ((t : Int) + 6 - (t : Int)).toNat = 6 := by omega
  refine ⟨_, rfl, _, rfl, _, _, rfl, rfl, _, _, rfl, ⟨by omega, by omega, by omega, by omega⟩, fun Dl hD => ?_⟩
  refine lc_range (lo := (t : Int)) (n := ((t : Int) + 6 - (t : Int)).toNat) (fun i H' => Same H1 H' ∧ ∃ rs : List Addr, rs.length = i ∧ H' Dl = some (.lst (rs.map V.ref)) ∧ ∀ j q, rs[j]? = some q → H' q = some (.tup [.int ((t + j : Nat) : Int), .int (numAt f1 q1 (t + j))]))
    ⟨same_upd (Same.refl _) hD, [], rfl, upd_same, fun j q e => by simp at e⟩ (fun i H2 hi h => ?_) (fun H2 h => ?_)
  · obtain ⟨s2, rs, hrl, hrd, hrs⟩ := h
    refine ⟨rfl, ?_⟩
    refine yes_of ?_
    have ei : (t : Int) + (i : Int) = ((t + i : Nat) : Int) := by omega
    rw [ei]
    have T2 := T1.same s2
    refine ⟨_, rfl, _, rfl, p1, dx, _, rfl, s2 _ _ e1, tmF_no _ _ (by decide +kernel) (by decide +kernel), _, rfl, p1, t + i, f1, q1, rfl, T2.at_, T2.sm.ne, (by show 2 ≤ sizeLine; decide), fun q hq2 => ?_⟩
    have s3 : Same H2 (upd H2 q (.tup [.int ((t + i : Nat) : Int), .int (numAt f1 q1 (t + i))])) := same_upd (Same.refl _) hq2
    refine ⟨_, s3 _ _ hrd, small1000 (by simp; omega), same_upd (s2.trans s3) hD, rs ++ [q], by simp [hrl], by rw [upd_same]; simp, fun j q' e2 => ?_⟩
    have nD : ∀ {q' : Addr} {xs : List V}, (upd H2 q (.tup [.int ((t + i : Nat) : Int), .int (numAt f1 q1 (t + i))])) q' = some (.tup xs) → (upd (upd H2 q (.tup [.int ((t + i : Nat) : Int), .int (numAt f1 q1 (t + i))])) Dl (.lst (rs.map V.ref ++ [.ref q]))) q' = some (.tup xs) := fun {q' xs} e => by
      rw [upd_ne (ne_of e (s3 _ _ hrd) (by intro z; cases z))]
      exact e
    by_cases c : j < rs.length
    · rw [List.getElem?_append_left c] at e2
      exact nD (s3 _ _ (hrs j q' e2))
    · have ej : j = rs.length := by
        have := (List.getElem?_eq_some_iff.mp e2).1
        rw [List.length_append] at this
        simp at this
        omega
      subst ej
      have e3 : q = q' := by simpa using e2
      subst e3
      rw [hrl]
      exact nD upd_same
  · obtain ⟨s2, rs, hrl, hrd, hrs⟩ := h
    have hl6 : rs.length = 6 := by omega
    refine ⟨dP t f1 q1, dP t f1 q1, dp_pairs hl (s2 _ _ ha) (fun j q e => s2 _ _ (hq j q e)), dp_pairs hl6 hrd hrs, sh_dP _ _ _, sh_dP _ _ _, _, rfl, ?_⟩
    rw [dP_refl]
    refine iteF ?_
    have s12 := s1.trans s2
    exact k _ _ ⟨d, p1, p2, t, f1, q1, f2, q2, x2, x3, x4, x5, x6, x8, x11, x12, x13, x14, rfl, ht9, B.sm s12, t1.same s12, t2.same s12⟩
/-! ### one item of ticks -/
def J19 (K : PySem.W.Frag) (C sc tb : Addr) (ns : List Int) : L2.St → Hp → Prop := fun σ H => ∃ (d p1 p2 : Addr) (f1 q1 f2 q2 : List Int) (x2 x3 x4 x5 x6 x7 x8 x11 x12 x13 x14 x15 : Option V), σ = [some (.ref sc), some (.ref d), x2, x3, x4, x5, x6, x7, x8, some (.ref p1), some (.ref p2), x11, x12, x13, x14, x15, none, none, none, none] ∧ Bs K H d sc tb ns ∧ Tm C p1 f1 q1 H ∧ Tm C p2 f2 q2 H
theorem pair_refl (i j : Int) : PyData.eqv (.tuple [.int i, .int j]) (.tuple [.int i, .int j]) = true := SeqAt.eqv_refl _ rfl
theorem st19 (L : LK P w K mg base) (hr : Room 8 (XL P w K mg base f cdv A outer s H0 E).A) : PSt (XL P w K mg base f cdv A outer s H0 E) (stm 19) (J17 K L.C sc tb ns) (J19 K L.C sc tb ns) := by
  refine ⟨fun D σ H => ∃ (d p1 : Addr) (f1 q1 : List Int), σ[1]? = some (some (.ref d)) ∧ σ[9]? = some (some (.ref p1)) ∧ σ.length = 20 ∧ TimesAt L.C H p1 f1 q1 ∧ q1 ≠ [] ∧ ∀ (q : Addr), H q = none → ∀ σ2 H2, σ2 = (σ.set 14 (some (.int 0))).set 15 (some (.int (numAt f1 q1 0))) → Same H H2 → D.nx σ2 H2,
    ⟨fun pins s σ H D I h => (ps_forTk0 PassesOwn.never L.FTk (L.T0.to I.ok.mod) (hr.mono (by decide)) (pv 9) L.mTk L.bTk L.vTk (pg_tup rfl (pgs_cons (pg_name (i := 14) scLaw.nd rfl (Or.inl rfl)) (pgs_cons (pg_name (i := 15) scLaw.nd rfl (Or.inl rfl)) pgs_nil)))
      (pss_cons (ps_if (pt_cmpR (op_neD hr.units) (pe_tup (pa_cons (pv 14) (pa_cons (pv 15) pa_nil))) (pe_tup (pa_cons pe_int (pa_cons (pe_subOwn (pv 9) pe_int L.giF L.giN L.giI L.FGi L.bGi (hr.mono (by decide)) pass0) pa_nil))) (nomark _)) (pss_one (ps_ret pe_bl)) pss_nil) (pss_one ps_break))).run pins s σ H D I ?_⟩, fun D σ H h k => ?_⟩
  · obtain ⟨d, p1, f1, q1, h1, h9, hl, t1, hne, k⟩ := h
    obtain ⟨dx, a, b, e1, _⟩ := id t1
    refine ⟨_, h9, p1, f1, q1, rfl, t1, hne, fun q hq => ?_⟩
    have s1 : Same H (upd H q (.tup [.int 0, .int (numAt f1 q1 0)])) := same_upd (Same.refl _) hq
    have hk := k q hq
    have g14 : ((σ.set 14 (some (V.int 0))).set 15 (some (V.int (numAt f1 q1 0))))[14]? = some (some (.int 0)) := by simp [hl]
    have g15 : ((σ.set 14 (some (V.int 0))).set 15 (some (V.int (numAt f1 q1 0))))[15]? = some (some (.int (numAt f1 q1 0))) := by simp [hl]
    have g9 : ((σ.set 14 (some (V.int 0))).set 15 (some (V.int (numAt f1 q1 0))))[9]? = some (some (.ref p1)) := by simp [h9]
    refine ⟨q, _, rfl, .of upd_same, rfl, _, _, rfl, _, _, rfl, rfl, ?_⟩
    refine ⟨_, g14, _, g15, (by show 2 ≤ sizeLine; decide), fun ta hta => ?_⟩
    have s2 := same_upd (o := .tup [.int 0, .int (numAt f1 q1 0)]) s1 (s1.free hta)
    refine ⟨_, g9, p1, dx, _, rfl, s2 _ _ e1, p1, 0, f1, q1, rfl, t1.sm s2, hne, (by show 2 ≤ sizeLine; decide), fun tb2 htb => ?_⟩
    have s3 := same_upd (o := .tup [.int 0, .int (numAt f1 q1 0)]) s2 (s2.free htb)
    have nt : ta ≠ tb2 := ne_of_none (show (upd (upd H q (.tup [.int 0, .int (numAt f1 q1 0)])) ta (.tup [.int 0, .int (numAt f1 q1 0)])) ta = some _ from upd_same) htb
    refine ⟨.tuple [.int 0, .int (numAt f1 q1 0)], .tuple [.int 0, .int (numAt f1 q1 0)], .tup (.of (by rw [upd_ne nt, upd_same])) (.cons (.int _) (.cons (.int _) .nil)), .tup (.of upd_same) (.cons (.int _) (.cons (.int _) .nil)), rfl, rfl, _, rfl, ?_⟩
    rw [pair_refl]
    refine iteF ?_
    exact hk _ _ rfl s3
  · obtain ⟨d, p1, p2, t, f1, q1, f2, q2, x2, x3, x4, x5, x6, x8, x11, x12, x13, x14, rfl, ht9, B, t1, t2⟩ := h
    refine ⟨d, p1, f1, q1, rfl, rfl, rfl, t1.at_, t1.sm.ne, fun q hq σ2 H2 e2 s2 => ?_⟩
    subst e2
    exact k _ _ ⟨d, p1, p2, f1, q1, f2, q2, x2, x3, x4, x5, x6, _, x8, x11, x12, x13, _, _, rfl, B.sm s2, t1.same s2, t2.same s2⟩
end
end R49
set_option maxHeartbeats 4000000
/-! the law's second half: the greatest lags -/
namespace R49
open PySem PySem.Spec PyProof.Rows L2 GenW
theorem callr_or {X : Cx} {fv : Value} {r r' : List V → Hp → VK → Prop} (h : CallR X fv r) (h' : CallR X fv r') : CallR X fv (fun xs H Q => r xs H Q ∨ r' xs H Q) := by
  intro pins s σ H xs us Q I rr q
  rcases q with q | q
  · exact h pins s σ H xs us Q I rr q
  · exact h' pins s σ H xs us Q I rr q
theorem lagF_number (n t : Int) : (lagF n t).lookup ("number" : Str) = some (.int n) := by
  have e : (("number" : Str) == ("number" : Str)) = true := by decide
  simp only [lagF, List.lookup, e]
theorem lagF_tick (n t : Int) : (lagF n t).lookup ("tick" : Str) = some (.int t) := by
  have e : (("tick" : Str) == ("number" : Str)) = false := by decide
  have e2 : (("tick" : Str) == ("tick" : Str)) = true := by decide
  simp only [lagF, List.lookup, e, e2]
theorem groF_growth (n t : Int) : (groF n t).lookup ("growth" : Str) = some (.int n) := by
  have e : (("growth" : Str) == ("growth" : Str)) = true := by decide
  simp only [groF, List.lookup, e]
/-- the two greatest lags: both growing, or both lags, one three times the other -/
def Gr (cL cG x y : Addr) (H : Hp) : Prop := (∃ (g M M' : Int) (dx dy : Addr), H x = some (.ins cG dx (groF g M)) ∧ H y = some (.ins cG dy (groF (3 * g) M'))) ∨ ∃ (m j : Int) (dx dy : Addr), H x = some (.ins cL dx (lagF m j)) ∧ H y = some (.ins cL dy (lagF (3 * m) j))
theorem Gr.same {cL cG x y : Addr} {H H' : Hp} (g : Gr cL cG x y H) (s : Same H H') : Gr cL cG x y H' := by
  rcases g with ⟨g, M, M', dx, dy, h1, h2⟩ | ⟨m, j, dx, dy, h1, h2⟩
  · exact .inl ⟨g, M, M', dx, dy, s _ _ h1, s _ _ h2⟩
  · exact .inr ⟨m, j, dx, dy, s _ _ h1, s _ _ h2⟩
section
variable {P : Program} {w : World} {K : PySem.W.Frag} {mg : Str → Option Value} {base : Heap} {f : Addr} {cdv : Value} {A : Around} {outer : List Env} {s : Shared} {H0 : Hp} {E : XK} {sc tb : Addr} {ns : List Int}
def J20 (K : PySem.W.Frag) (C cL cG sc tb : Addr) (ns : List Int) : L2.St → Hp → Prop := fun σ H => ∃ (d p1 p2 ga gb : Addr) (f1 q1 f2 q2 : List Int) (x2 x3 x4 x5 x6 x7 x8 x11 x12 x13 x14 x15 : Option V), σ = [some (.ref sc), some (.ref d), x2, x3, x4, x5, x6, x7, x8, some (.ref p1), some (.ref p2), x11, x12, x13, x14, x15, some (.ref ga), some (.ref gb), none, none] ∧ Bs K H d sc tb ns ∧ Tm C p1 f1 q1 H ∧ Tm C p2 f2 q2 H ∧ Gr cL cG ga gb H
theorem st20 (L : LK P w K mg base) (hr : Room 8 (XL P w K mg base f cdv A outer s H0 E).A) : PSt (XL P w K mg base f cdv A outer s H0 E) (stm 20) (J19 K L.C sc tb ns) (J20 K L.C L.cL L.cG sc tb ns) := by
  refine ⟨_, ps_par (i := 16) (j := 17) rfl scLaw.nd rfl rfl (by decide) rfl rfl (pa_cons (pe_call L.great.ok (hr.mono (by decide)) (by rfl) L.great.g L.great.kp L.great.b .nil pass0 (pa_cons (pv 9) (pa_cons (pv 10) pa_nil)))
      (pa_cons (pe_call L.great.ok (hr.mono (by decide)) (by rfl) L.great.g L.great.kp L.great.b .nil pass0 (pa_cons (pe_op (op_binInt L.sf L.mulF L.mulI L.mulR L.mul1 L.mul2 L.mul3 L.FMul L.bMul (hr.mono (by decide)) passN) (pv 9) pe_int)
        (pa_cons (pe_op (op_binInt L.sf L.mulF L.mulI L.mulR L.mul1 L.mul2 L.mul3 L.FMul L.bMul (hr.mono (by decide)) passN) (pv 10) pe_int) pa_nil))) pa_nil)) rfl, fun D σ H h k => ?_⟩
  obtain ⟨d, p1, p2, f1, q1, f2, q2, x2, x3, x4, x5, x6, x7, x8, x11, x12, x13, x14, x15, rfl, B, t1, t2⟩ := h
  have hM := sumM_small t1.sm t2.sm
  have eM : sumM (scaled 3 q1) (scaled 3 q2) = sumM q1 q2 := by
    unfold sumM
    rw [scaled_len, scaled_len]
  have eg := growth_scaled q1 q2
  -- what comes behind the first, its answer at ga
  have tail : ∀ (ga : Addr) (H1 : Hp) (Pg : Prop), Same H H1 → (∀ (gb : Addr) (H2 : Hp), Same H1 H2 → (growth q1 q2 > 0 → ∀ dy, H2 gb = some (.ins L.cG dy (groF (3 * growth q1 q2) (sumM q1 q2))) → Gr L.cL L.cG ga gb H2) ∧
        (¬ growth q1 q2 > 0 → ∀ dy m j, Top (told (scaled 3 f1) (scaled 3 q1) (scaled 3 f2) (scaled 3 q2)) m j → H2 gb = some (.ins L.cL dy (lagF m j)) → Gr L.cL L.cG ga gb H2)) →
      tCons (tCall (spGreat L.C L.cL L.cG) [] E0 (tCons (tOp (rBinInt L.C (spTmMul L.C L.eT) E0) (tVar 9) (tC (.int 3))) (tCons (tOp (rBinInt L.C (spTmMul L.C L.eT) E0) (tVar 10) (tC (.int 3))) tNil))) tNil
        [some (.ref sc), some (.ref d), x2, x3, x4, x5, x6, x7, x8, some (.ref p1), some (.ref p2), x11, x12, x13, x14, x15, none, none, none, none] H1 fun vs H' => ∃ v w, V.ref ga :: vs = [v, w] ∧ D.nx (([some (.ref sc), some (.ref d), x2, x3, x4, x5, x6, x7, x8, some (.ref p1), some (.ref p2), x11, x12, x13, x14, x15, none, none, none, none].set 16 (some v)).set 17 (some w)) H' := fun ga H1 Pg s1 hG => by
    have T1 := t1.same s1
    obtain ⟨dx1, a1, b1, e1, _⟩ := id T1.at_
    refine ⟨_, rfl, p1, dx1, _, 3, rfl, rfl, e1, p1, 3, f1, q1, rfl, T1.at_, t1.sm.tb, by decide, by decide, fun _ H2 z1 s2 nz1 tz1 => ?_, fun no => absurd (scaled_ok (m := 3) t1.sm (by decide) (by decide)) (by rw [no]; decide)⟩
    have s12 := s1.trans s2
    have T2 := t2.same s12
    obtain ⟨dx2, a2, b2, e2, _⟩ := id T2.at_
    refine ⟨_, rfl, p2, dx2, _, 3, rfl, rfl, e2, p2, 3, f2, q2, rfl, T2.at_, t2.sm.tb, by decide, by decide, fun _ H3 z2 s3 nz2 tz2 => ?_, fun no => absurd (scaled_ok (m := 3) t2.sm (by decide) (by decide)) (by rw [no]; decide)⟩
    have s13 := s12.trans s3
    have s23 := s2.trans s3
    refine ⟨z1, z2, _, _, _, _, rfl, tz1.sm s3, tz2, scaled_tb t1.sm, scaled_tb t2.sm, by rw [eM]; omega, fun hg H4 gb dy s4 hb => ?_, fun hg H4 gb dy m j s4 ht hb => ?_⟩
    · rw [eg] at hg
      rw [eg, eM] at hb
      exact ⟨_, _, rfl, k _ _ ⟨d, p1, p2, ga, gb, f1, q1, f2, q2, x2, x3, x4, x5, x6, x7, x8, x11, x12, x13, x14, x15, rfl, B.sm (s13.trans s4), t1.same (s13.trans s4), t2.same (s13.trans s4), (hG gb H4 (s23.trans s4)).1 (by omega) dy hb⟩⟩
    · rw [eg] at hg
      exact ⟨_, _, rfl, k _ _ ⟨d, p1, p2, ga, gb, f1, q1, f2, q2, x2, x3, x4, x5, x6, x7, x8, x11, x12, x13, x14, x15, rfl, B.sm (s13.trans s4), t1.same (s13.trans s4), t2.same (s13.trans s4), (hG gb H4 (s23.trans s4)).2 (by omega) dy m j ht hb⟩⟩
  refine ⟨_, rfl, _, rfl, p1, p2, f1, q1, f2, q2, rfl, t1.at_, t2.at_, t1.sm.tb, t2.sm.tb, by omega, fun hg H1 ga dx s1 ha => ?_, fun hg H1 ga dx m j s1 ht ha => ?_⟩
  · exact tail ga H1 True s1 fun gb H2 s2 => ⟨fun _ dy hb => .inl ⟨_, _, _, dx, dy, s2 _ _ ha, hb⟩, fun no => absurd hg no⟩
  · refine tail ga H1 True s1 fun gb H2 s2 => ⟨fun yes => absurd yes hg, fun _ dy m' j' ht' hb => .inr ⟨m, j, dx, dy, s2 _ _ ha, ?_⟩⟩
    rw [told_scaled] at ht'
    obtain ⟨rfl, rfl⟩ := top_scaled ht ht'
    exact hb
theorem st21 (L : LK P w K mg base) (hr : Room 8 (XL P w K mg base f cdv A outer s H0 E).A) : PSt (XL P w K mg base f cdv A outer s H0 E) (stm 21) (J20 K L.C L.cL L.cG sc tb ns) (J20 K L.C L.cL L.cG sc tb ns) := by
  refine ⟨_, ps_if (pt_cmpR op_ne (pe_callTy (callr_or (call_boolOwn L.lbF L.lbI L.FLB L.bLB (hr.mono (by decide)) pass0) (call_boolOwn L.gbF L.gbI L.FGB L.bGB (hr.mono (by decide)) pass0)) (by rfl) L.N.bool PyProof.Rows.boot_bool (pa_cons (pv 16) pa_nil))
      (pe_callTy (callr_or (call_boolOwn L.lbF L.lbI L.FLB L.bLB (hr.mono (by decide)) pass0) (call_boolOwn L.gbF L.gbI L.FGB L.bGB (hr.mono (by decide)) pass0)) (by rfl) L.N.bool PyProof.Rows.boot_bool (pa_cons (pv 17) pa_nil)) (nomark _)) (pss_one (ps_ret pe_bl)) pss_nil, fun D σ H h k => ?_⟩
  obtain ⟨d, p1, p2, ga, gb, f1, q1, f2, q2, x2, x3, x4, x5, x6, x7, x8, x11, x12, x13, x14, x15, rfl, B, t1, t2, g⟩ := h
  have fin : D.nx [some (.ref sc), some (.ref d), x2, x3, x4, x5, x6, x7, x8, some (.ref p1), some (.ref p2), x11, x12, x13, x14, x15, some (.ref ga), some (.ref gb), none, none] H := k _ _ ⟨d, p1, p2, ga, gb, f1, q1, f2, q2, x2, x3, x4, x5, x6, x7, x8, x11, x12, x13, x14, x15, rfl, B, t1, t2, g⟩
  rcases g with ⟨g, M, M', dx, dy, h1, h2⟩ | ⟨m, j, dx, dy, h1, h2⟩
  · exact ⟨_, rfl, .inr ⟨ga, dx, _, rfl, h1, ga, rfl, false, rfl, _, rfl, .inr ⟨gb, dy, _, rfl, h2, gb, rfl, false, rfl, rfl, _, rfl, iteNS rfl fin⟩⟩⟩
  · exact ⟨_, rfl, .inl ⟨ga, dx, _, rfl, h1, ga, rfl, true, rfl, _, rfl, .inl ⟨gb, dy, _, rfl, h2, gb, rfl, true, rfl, rfl, _, rfl, iteNS rfl fin⟩⟩⟩
theorem st22 (L : LK P w K mg base) (hr : Room 8 (XL P w K mg base f cdv A outer s H0 E).A) : PSt (XL P w K mg base f cdv A outer s H0 E) (stm 22) (J20 K L.C L.cL L.cG sc tb ns) (J20 K L.C L.cL L.cG sc tb ns) := by
  refine ⟨_, ps_if (PW.pt (pw_and (pt_truthOwn2 (pv 16) L.lbF L.lbI L.FLB L.bLB (hr.mono (by decide)) pass0 L.gbF L.gbI L.FGB L.bGB (hr.mono (by decide)))
      (pw_and1 (pt_cmpR (op_neD hr.units) (pe_tup (pa_cons (pe_fld (pv 17) rfl) (pa_cons (pe_fld (pv 17) rfl) pa_nil))) (pe_tup (pa_cons (pe_op op_mul pe_int (pe_fld (pv 16) rfl)) (pa_cons (pe_fld (pv 16) rfl) pa_nil))) (nomark _))))) (pss_one (ps_ret pe_bl)) pss_nil, fun D σ H h k => ?_⟩
  obtain ⟨d, p1, p2, ga, gb, f1, q1, f2, q2, x2, x3, x4, x5, x6, x7, x8, x11, x12, x13, x14, x15, rfl, B, t1, t2, g⟩ := h
  have fin : ∀ {H' : Hp}, Same H H' → D.nx [some (.ref sc), some (.ref d), x2, x3, x4, x5, x6, x7, x8, some (.ref p1), some (.ref p2), x11, x12, x13, x14, x15, some (.ref ga), some (.ref gb), none, none] H' := fun s' => k _ _ ⟨d, p1, p2, ga, gb, f1, q1, f2, q2, x2, x3, x4, x5, x6, x7, x8, x11, x12, x13, x14, x15, rfl, B.sm s', t1.same s', t2.same s', g.same s'⟩
  rcases id g with ⟨g, M, M', dx, dy, h1, h2⟩ | ⟨m, j, dx, dy, h1, h2⟩
  · exact ⟨_, rfl, .inr ⟨ga, dx, _, rfl, h1, ga, rfl, false, rfl, iteF (fin (Same.refl _))⟩⟩
  · refine ⟨_, rfl, .inl ⟨ga, dx, _, rfl, h1, ga, rfl, true, rfl, ?_⟩⟩
    refine iteT ?_
    have TL := L.TL
    refine ⟨_, rfl, gb, L.cL, dy, _, _, rfl, h2, TL.cl, TL.nX, lagF_number _ _, _, rfl, gb, L.cL, dy, _, _, rfl, h2, TL.cl, TL.nY, lagF_tick _ _, (by show 2 ≤ sizeLine; decide), fun ta hta => ?_⟩
    have s1 : Same H (upd H ta (.tup [.int (3 * m), .int j])) := same_upd (Same.refl _) hta
    refine ⟨_, rfl, ga, L.cL, dx, _, _, rfl, s1 _ _ h1, TL.cl, TL.nX, lagF_number _ _, _, _, rfl, rfl, .inl ⟨by decide, by decide⟩, _, rfl, ga, L.cL, dx, _, _, rfl, s1 _ _ h1, TL.cl, TL.nY, lagF_tick _ _, (by show 2 ≤ sizeLine; decide), fun tb2 htb => ?_⟩
    have s2 := same_upd (o := .tup [.int (3 * m), .int j]) s1 (s1.free htb)
    have nt : ta ≠ tb2 := ne_of_none (show (upd H ta (.tup [.int (3 * m), .int j])) ta = some _ from upd_same) htb
    refine ⟨.tuple [.int (3 * m), .int j], .tuple [.int (3 * m), .int j], .tup (.of (by rw [upd_ne nt, upd_same])) (.cons (.int _) (.cons (.int _) .nil)), .tup (.of upd_same) (.cons (.int _) (.cons (.int _) .nil)), rfl, rfl, _, rfl, ?_⟩
    rw [pair_refl]
    exact iteF (fin s2)
theorem st23 (L : LK P w K mg base) (hr : Room 8 (XL P w K mg base f cdv A outer s H0 E).A) : PSt (XL P w K mg base f cdv A outer s H0 E) (stm 23) (J20 K L.C L.cL L.cG sc tb ns) (J20 K L.C L.cL L.cG sc tb ns) := by
  refine ⟨_, ps_if (PW.pt (pw_and (pt_not (pt_truthOwn2 (pv 16) L.lbF L.lbI L.FLB L.bLB (hr.mono (by decide)) pass0 L.gbF L.gbI L.FGB L.bGB (hr.mono (by decide))))
      (pw_and1 (pt_cmpR op_ne (pe_fld (pv 17) rfl) (pe_op op_mul pe_int (pe_fld (pv 16) rfl)) (nomark _))))) (pss_one (ps_ret pe_bl)) pss_nil, fun D σ H h k => ?_⟩
  obtain ⟨d, p1, p2, ga, gb, f1, q1, f2, q2, x2, x3, x4, x5, x6, x7, x8, x11, x12, x13, x14, x15, rfl, B, t1, t2, g⟩ := h
  have fin : D.nx [some (.ref sc), some (.ref d), x2, x3, x4, x5, x6, x7, x8, some (.ref p1), some (.ref p2), x11, x12, x13, x14, x15, some (.ref ga), some (.ref gb), none, none] H := k _ _ ⟨d, p1, p2, ga, gb, f1, q1, f2, q2, x2, x3, x4, x5, x6, x7, x8, x11, x12, x13, x14, x15, rfl, B, t1, t2, g⟩
  rcases id g with ⟨g, M, M', dx, dy, h1, h2⟩ | ⟨m, j, dx, dy, h1, h2⟩
  · refine ⟨_, rfl, .inr ⟨ga, dx, _, rfl, h1, ga, rfl, false, rfl, ?_⟩⟩
    refine iteT ?_
    have TG := L.TG
    refine ⟨_, rfl, gb, L.cG, dy, _, _, rfl, h2, TG.cl, TG.nX, groF_growth _ _, _, rfl, ga, L.cG, dx, _, _, rfl, h1, TG.cl, TG.nX, groF_growth _ _, _, _, rfl, rfl, .inl ⟨by decide, by decide⟩, rfl, _, rfl, ?_⟩
    exact iteNS rfl fin
  · exact ⟨_, rfl, .inl ⟨ga, dx, _, rfl, h1, ga, rfl, true, rfl, iteF fin⟩⟩
end
end R49
set_option maxHeartbeats 4000000
/-! the law's second half: the refused sums; the end -/
namespace R49
open PySem PySem.Spec PyProof.Rows L2 GenW
/-- a written list of ints -/
def LitE (te : TE) (xs : List Int) : Prop := ∀ (σ : L2.St) (H : Hp) (R : VK), (∀ p H', Same H H' → H' p = some (.lst (iV xs)) → R (.ref p) H') → te σ H R
theorem lit0 : LitE (tLst tNil) [] := fun σ H R k => ⟨by show 0 ≤ sizeLine; omega, fun p hp => k p _ (same_upd (Same.refl _) hp) upd_same⟩
theorem lit1 (i : Int) : LitE (tLst (tCons (tC (.int i)) tNil)) [i] := fun σ H R k => ⟨by show 1 ≤ sizeLine; rw [sizeLine_eq]; omega, fun p hp => k p _ (same_upd (Same.refl _) hp) upd_same⟩
theorem litR (n : Nat) (hn : n ≤ 100) : LitE (tOp rRep (tLst (tCons (tC (.int 0)) tNil)) (tC (.int (n : Int)))) (List.replicate n 0) := fun σ H R k => by
  refine ⟨by show 1 ≤ sizeLine; rw [sizeLine_eq]; omega, fun p hp => ?_⟩
  have s1 : Same H (upd H p (.lst [.int 0])) := same_upd (Same.refl _) hp
  refine ⟨p, n, [.int 0], rfl, rfl, upd_same, by omega, by omega, by rw [sizeLine_eq]; simp; omega, fun q hq => k q _ (same_upd s1 (s1.free hq)) ?_⟩
  rw [upd_same]
  have e : ∀ m : Nat, (List.replicate m [V.int 0]).flatten = iV (List.replicate m 0) := fun m => by
    induction m with
    | zero => rfl
    | succ m ih =>
      rw [List.replicate_succ, List.flatten_cons, ih, List.replicate_succ]
      rfl
  rw [show ((n : Int)).toNat = n by omega, e]
theorem mk_lit {C eT : Addr} {σ : L2.St} {H : Hp} {Q : VK} {xs ys : List Int} {ta tb : TE} (ha : LitE ta xs) (hb : LitE tb ys) (hx : xs.length ≤ 100) (hy : ys.length ≤ 100) (ok : okB xs ys = true)
    (k : ∀ x H', Same H H' → TimesAt C H' x xs ys → Q (.ref x) H') : tMake C (spTmInit C eT) [] E0 (tCons ta (tCons tb tNil)) σ H Q := by
  refine ha σ H _ fun a H1 s1 ha1 => hb σ H1 _ fun b H2 s2 hb2 => ?_
  intro x dx nx ndx nex
  have s3 : Same H2 (upd (upd H2 dx (.own x)) x (.ins C dx [])) := same_upd (same_upd (Same.refl _) ndx) nx
  refine ⟨x, dx, a, b, xs, ys, rfl, upd_same, s3 _ _ (s2 _ _ ha1), s3 _ _ hb2, by omega, by omega, fun _ H4 tm kp => ⟨rfl, k x H4 ?_ tm⟩, fun no => absurd ok (by rw [no]; decide)⟩
  have s12 := s1.trans s2
  exact fun c o e => kp c o (s3 _ _ (s12 _ _ e)) (ne_of_none (s12 _ _ e) nx)
/-- the name that the law's lambdas bear -/
def qLam : Str := (("law" : Str) ++ ".<locals>.") ++ "<lambda>"
section
variable {P : Program} {w : World} {K : PySem.W.Frag} {mg : Str → Option Value} {base : Heap} {f c : Addr} {A : Around} {outer : List Env} {s : Shared} {H0 : Hp} {E : XK} {sc tb : Addr} {ns : List Int}
def J24 (C tb : Addr) : L2.St → Hp → Prop := fun σ H => ∃ (p1 : Addr) (f1 q1 : List Int) (x0 x1 x2 x3 x4 x5 x6 x7 x8 x10 x11 x12 x13 x14 x15 x16 x17 : Option V), σ = [x0, x1, x2, x3, x4, x5, x6, x7, x8, some (.ref p1), x10, x11, x12, x13, x14, x15, x16, x17, none, none] ∧ Tm C p1 f1 q1 H ∧ LamX.Tabs [(tb, qLam)] H
theorem j24 {C cL cG : Addr} {σ : L2.St} {H : Hp} (h : J20 K C cL cG sc tb ns σ H) : J24 C tb σ H := by
  obtain ⟨d, p1, p2, ga, gb, f1, q1, f2, q2, x2, x3, x4, x5, x6, x7, x8, x11, x12, x13, x14, x15, rfl, B, t1, t2, g⟩ := h
  refine ⟨p1, f1, q1, _, _, x2, x3, x4, x5, x6, x7, x8, _, x11, x12, x13, x14, x15, _, _, rfl, t1, fun p hp => ?_⟩
  have e : p = (tb, qLam) := by simpa using hp
  rw [e]
  exact .nil B.t
/-- if not _law_is_refused(lambda: body): return False -/
theorem st_ref (L : LK P w K mg base) (TB : LamX.TabB base mg c tb) (hr : Room 8 (XL P w K mg base f (.ref c) A outer s H0 E).A) {params : Arguments} {body : Expr} {scope : Scope} {t : XK → TE} {p lpos pos pi pu pc pr : Pos} {j : Nat}
    (Ls : LamX.LamS (defScope sLaw) scope) (hdef : defaultsOf params (XL P w K mg base f (.ref c) A outer s H0 E).env = ([], [])) (hbind : ∀ (q : Str) (cl : List (Str × Addr)) (pm cv ctv : Value), bindArgs (PySem.W.kla_fn "<lambda>" q params body scope cl pm cv ctv) ⟨[], []⟩ = pure [])
    (hbody : ∀ (A' : Around) (outer' : List Env) (s' : Shared) (H : Hp) (E' : XK) (f' c' : Addr), Room 6 (A'.deeper (LamX.lamEnv (XL P w K mg base f (.ref c) A outer s H0 E) scope s'.heap.objs.size f' c')) → PE (LamX.lamCx (XL P w K mg base f (.ref c) A outer s H0 E) A' outer' s' H E' scope f' c') body (t E'))
    (hread : ∀ (E' : XK) σ H (Q : VK), (∀ H', Same H H' → E' (.ref L.eT) none H') → t E' σ H Q) (hpm : ∀ whole, isTrue (.Call (.Name "_law_is_refused" p) [.Lambda params body scope lpos] [] pos) (XL P w K mg base f (.ref c) A outer s H0 E).env whole = (do let v ← whole; standAt pos; holding [v] (truthy v))) :
    PSt (XL P w K mg base f (.ref c) A outer s H0 E) (.If (.UnaryOp .Not (.Call (.Name "_law_is_refused" p) [.Lambda params body scope lpos] [] pos) pu) [.Return (some (.Constant (.bool false) j pc)) pr] [] pi) (J24 L.C tb) (J24 L.C tb) := by
  obtain ⟨oc, od, an, osl, dV, kV, doc, pm, cdv, ct, lk, hcd, hb⟩ := L.rf
  have hg : LamX.GivesTo (XL P w K mg base f (.ref c) A outer s H0 E) ["_law_deed"] "_law_is_refused" (defScope sLRef) L.fRf cdv (defBody sLRef) "_law_deed" qLam (TRef K L.eT) :=
    ref_gives rfl L.ET.g (by decide) fun _ => rfl
  have hm : (tb, (XL P w K mg base f (.ref c) A outer s H0 E).env.qual ++ "<lambda>") ∈ [(tb, qLam)] := List.mem_singleton.mpr rfl
  have hu : ∀ p ∈ [(tb, qLam)], p.1 = tb → p.2 = (XL P w K mg base f (.ref c) A outer s H0 E).env.qual ++ "<lambda>" := fun p hp _ => by
    rw [List.mem_singleton.mp hp]
    rfl
  refine ⟨_, ps_if (pt_not (pt_val (LamX.pe_lamcall (T := [(tb, qLam)]) (k := 6) (by rfl) L.gRf L.kRf lk hcd hb ⟨rfl, rfl, rfl, by decide +kernel, rfl, by decide +kernel, by decide +kernel⟩ rfl (Or.inl rfl) hg TB rfl hm hu hr Ls hdef hbind hbody) hpm)) (pss_one (ps_ret pe_bl)) pss_nil, fun D σ H h k => ?_⟩
  obtain ⟨p1, f1, q1, x0, x1, x2, x3, x4, x5, x6, x7, x8, x10, x11, x12, x13, x14, x15, x16, x17, rfl, t1, T⟩ := h
  refine ⟨T, fun H1 eN T1 => ?_⟩
  refine hread _ _ _ _ fun H2 s2 => ⟨true, L.ET.em, fun _ => ⟨_, rfl, ?_⟩, fun z => nomatch z⟩
  refine iteF ?_
  exact k _ _ ⟨p1, f1, q1, x0, x1, x2, x3, x4, x5, x6, x7, x8, x10, x11, x12, x13, x14, x15, x16, x17, rfl, ⟨(t1.at_.same eN).sm s2, t1.sm⟩, T1.ext s2⟩
end
end R49
set_option maxHeartbeats 4000000
/-! the law's end; the whole law -/
namespace R49
open PySem PySem.Spec PyProof.Rows L2 GenW
section
variable {P : Program} {w : World} {K : PySem.W.Frag} {mg : Str → Option Value} {base : Heap} {f c : Addr} {A : Around} {outer : List Env} {s : Shared} {H0 : Hp} {E : XK} {sc tb : Addr} {ns : List Int}
/-- Times(..) + Times(..) of written lists, refused -/
theorem add_lit {C eT : Addr} {f1 q1 f2 q2 : List Int} {ta tb tc td : TE} {E' : XK} (ha : LitE ta f1) (hb : LitE tb q1) (hc : LitE tc f2) (hd : LitE td q2) (z1 : f1.length ≤ 24) (z2 : q1.length ≤ 24) (z3 : f2.length ≤ 24) (z4 : q2.length ≤ 24) (n1 : q1 ≠ []) (n2 : q2 ≠ []) (k1 : okB f1 q1 = true) (k2 : okB f2 q2 = true)
    {σ : L2.St} {H : Hp} {Q : VK} (no : okB (sumF f1 q1 f2 q2) (sumP f1 q1 f2 q2) = false) (h : ∀ H', Same H H' → E' (.ref eT) none H') :
    tOp (rBinOwn C (spTmAdd C eT) E') (tMake C (spTmInit C eT) [] E0 (tCons ta (tCons tb tNil))) (tMake C (spTmInit C eT) [] E0 (tCons tc (tCons td tNil))) σ H Q := by
  refine mk_lit ha hb (by omega) (by omega) k1 fun x H1 s1 t1 => ?_
  refine mk_lit hc hd (by omega) (by omega) k2 fun y H2 s2 t2 => ?_
  have t1' := t1.sm s2
  obtain ⟨dx, a, b, h1, _⟩ := id t1'
  obtain ⟨dy, a', b', h2, _⟩ := id t2
  exact ⟨x, y, dx, dy, _, _, rfl, rfl, h1, h2, x, y, f1, q1, f2, q2, rfl, t1', t2, ⟨z1, z2, n1⟩, ⟨z3, z4, n2⟩, fun yes => absurd yes (by rw [no]; decide), fun _ H3 s3 => h H3 ((s1.trans s2).trans s3)⟩
theorem st24 (L : LK P w K mg base) (TB : LamX.TabB base mg c tb) (hr : Room 8 (XL P w K mg base f (.ref c) A outer s H0 E).A) : PSt (XL P w K mg base f (.ref c) A outer s H0 E) (stm 24) (J24 L.C tb) (J24 L.C tb) := by
  refine st_ref (t := fun E' => tOp (rBinOwn L.C (spTmAdd L.C L.eT) E') (tMake L.C (spTmInit L.C L.eT) [] E0 (tCons (tLst (tCons (tC (.int 60)) tNil)) (tCons (tLst (tCons (tC (.int 1)) tNil)) tNil))) (tMake L.C (spTmInit L.C L.eT) [] E0 (tCons (tLst tNil) (tCons (tLst (tCons (tC (.int 41)) tNil)) tNil)))) L TB hr (LamX.lamS_by (by decide +kernel)) rfl (fun _ _ _ _ _ => rfl) (fun A' outer' s' H E' f' c' hr' => ?_) (fun E' σ H Q h => ?_) (by intro _; rfl)
  · exact pe_op (op_binOwn L.sf L.addF L.addI L.FAdd L.bAdd (hr'.mono (by decide)) (passes_call (takes_of rfl rfl rfl rfl) fun _ _ _ _ z => z))
      (pe_make L.MT L.FTI (hr'.mono (by decide)) (by rfl) L.T.g L.bTI .nil passN (pa_cons (pe_lst (pa_cons pe_int pa_nil)) (pa_cons (pe_lst (pa_cons pe_int pa_nil)) pa_nil)))
      (pe_make L.MT L.FTI (hr'.mono (by decide)) (by rfl) L.T.g L.bTI .nil passN (pa_cons (pe_lst pa_nil) (pa_cons (pe_lst (pa_cons pe_int pa_nil)) pa_nil)))
  · exact add_lit (lit1 60) (lit1 1) lit0 (lit1 41) (by decide) (by decide) (by decide) (by decide) (by decide) (by decide) ok_1 ok_2 no_1 h
theorem st25 (L : LK P w K mg base) (TB : LamX.TabB base mg c tb) (hr : Room 8 (XL P w K mg base f (.ref c) A outer s H0 E).A) : PSt (XL P w K mg base f (.ref c) A outer s H0 E) (stm 25) (J24 L.C tb) (J24 L.C tb) := by
  refine st_ref (t := fun E' => tOp (rBinOwn L.C (spTmAdd L.C L.eT) E') (tMake L.C (spTmInit L.C L.eT) [] E0 (tCons (tLst tNil) (tCons (tOp rRep (tLst (tCons (tC (.int 0)) tNil)) (tC (.int 5))) tNil))) (tMake L.C (spTmInit L.C L.eT) [] E0 (tCons (tLst tNil) (tCons (tOp rRep (tLst (tCons (tC (.int 0)) tNil)) (tC (.int 7))) tNil)))) L TB hr (LamX.lamS_by (by decide +kernel)) rfl (fun _ _ _ _ _ => rfl) (fun A' outer' s' H E' f' c' hr' => ?_) (fun E' σ H Q h => ?_) (by intro _; rfl)
  · exact pe_op (op_binOwn L.sf L.addF L.addI L.FAdd L.bAdd (hr'.mono (by decide)) (passes_call (takes_of rfl rfl rfl rfl) fun _ _ _ _ z => z))
      (pe_make L.MT L.FTI (hr'.mono (by decide)) (by rfl) L.T.g L.bTI .nil passN (pa_cons (pe_lst pa_nil) (pa_cons (pe_op op_rep (pe_lst (pa_cons pe_int pa_nil)) pe_int) pa_nil)))
      (pe_make L.MT L.FTI (hr'.mono (by decide)) (by rfl) L.T.g L.bTI .nil passN (pa_cons (pe_lst pa_nil) (pa_cons (pe_op op_rep (pe_lst (pa_cons pe_int pa_nil)) pe_int) pa_nil)))
  · exact add_lit lit0 (litR 5 (by decide)) lit0 (litR 7 (by decide)) (by decide) (by decide) (by decide) (by decide) (by decide) (by decide) ok_3 ok_4 no_2 h
theorem st26 (L : LK P w K mg base) (TB : LamX.TabB base mg c tb) (hr : Room 8 (XL P w K mg base f (.ref c) A outer s H0 E).A) : PSt (XL P w K mg base f (.ref c) A outer s H0 E) (stm 26) (J24 L.C tb) (J24 L.C tb) := by
  refine st_ref (t := fun E' => tOp (rBinInt L.C (spTmMul L.C L.eT) E') (tMake L.C (spTmInit L.C L.eT) [] E0 (tCons (tLst tNil) (tCons (tLst (tCons (tC (.int 51)) tNil)) tNil))) (tC (.int 2))) L TB hr (LamX.lamS_by (by decide +kernel)) rfl (fun _ _ _ _ _ => rfl) (fun A' outer' s' H E' f' c' hr' => ?_) (fun E' σ H Q h => ?_) (by intro _; rfl)
  · exact pe_op (op_binInt L.sf L.mulF L.mulI L.mulR L.mul1 L.mul2 L.mul3 L.FMul L.bMul (hr'.mono (by decide)) (passes_call (takes_of rfl rfl rfl rfl) fun _ _ _ _ z => z))
      (pe_make L.MT L.FTI (hr'.mono (by decide)) (by rfl) L.T.g L.bTI .nil passN (pa_cons (pe_lst pa_nil) (pa_cons (pe_lst (pa_cons pe_int pa_nil)) pa_nil))) pe_int
  · refine mk_lit lit0 (lit1 51) (by decide) (by decide) ok_5 fun x H1 s1 t1 => ?_
    obtain ⟨dx, a, b, h1, _⟩ := id t1
    exact ⟨x, dx, _, 2, rfl, rfl, h1, x, 2, [], [51], rfl, t1, ⟨by decide, by decide, by decide⟩, by decide, by decide, fun yes => absurd yes (by rw [no_3]; decide), fun _ H2 s2 => h H2 (s1.trans s2)⟩
theorem st27 (L : LK P w K mg base) (hr : Room 8 (XL P w K mg base f (.ref c) A outer s H0 E).A) : PRest (XL P w K mg base f (.ref c) A outer s H0 E) [stm 27] (J24 L.C tb) := by
  refine ⟨_, pss_one (ps_ret (pe_and (pe_cmpR (op_eqOwn L.nf L.eqF L.eqI L.FEq L.bEq (hr.mono (by decide)) pass0) (pv 9) (pe_make L.MT L.FTI (hr.mono (by decide)) (by rfl) L.T.g L.bTI .nil passN (pa_cons (pe_fld (pv 9) rfl) (pa_cons (pe_fld (pv 9) rfl) pa_nil))) (nomark _))
      (pe_one (pe_cmpR (op_eqOwn L.nf L.eqF L.eqI L.FEq L.bEq (hr.mono (by decide)) pass0) (pe_op (op_binOwn L.sf L.addF L.addI L.FAdd L.bAdd (hr.mono (by decide)) passN)
          (pe_make L.MT L.FTI (hr.mono (by decide)) (by rfl) L.T.g L.bTI .nil passN (pa_cons (pe_lst (pa_cons pe_int pa_nil)) (pa_cons (pe_lst (pa_cons pe_int pa_nil)) pa_nil)))
          (pe_make L.MT L.FTI (hr.mono (by decide)) (by rfl) L.T.g L.bTI .nil passN (pa_cons (pe_lst (pa_cons pe_int pa_nil)) (pa_cons (pe_lst (pa_cons pe_int pa_nil)) pa_nil))))
        (pe_make L.MT L.FTI (hr.mono (by decide)) (by rfl) L.T.g L.bTI .nil passN (pa_cons (pe_lst (pa_cons pe_int pa_nil)) (pa_cons (pe_lst (pa_cons pe_int pa_nil)) pa_nil))) (nomark _))))), fun D σ H h k => ?_⟩
  obtain ⟨p1, f1, q1, x0, x1, x2, x3, x4, x5, x6, x7, x8, x10, x11, x12, x13, x14, x15, x16, x17, rfl, t1, T⟩ := h
  obtain ⟨dx, a, b, h1, h2, h3⟩ := id t1.at_
  have g1 := t1.sm.f
  have g2 := t1.sm.p
  refine ⟨_, rfl, _, rfl, p1, L.C, dx, _, _, rfl, h1, L.T.cl, L.T.nF, tmF_front _ _, _, rfl, p1, L.C, dx, _, _, rfl, h1, L.T.cl, L.T.nP, tmF_period _ _, fun x dx2 nx ndx nex => ?_⟩
  have s1 : Same H (upd (upd H dx2 (.own x)) x (.ins L.C dx2 [])) := same_upd (same_upd (Same.refl _) ndx) nx
  refine ⟨x, dx2, a, b, f1, q1, rfl, upd_same, s1 _ _ h2, s1 _ _ h3, by omega, by omega, fun _ H2 tm kp => ⟨rfl, ?_⟩, fun no => absurd t1.sm.ok (by rw [no]; decide)⟩
  have s2 : Same H H2 := fun c o e => kp c o (s1 _ _ e) (ne_of_none e nx)
  obtain ⟨dx3, a3, b3, e3, _⟩ := id tm
  refine ⟨p1, x, dx, dx3, _, _, rfl, rfl, s2 _ _ h1, e3, p1, x, f1, q1, f1, q1, rfl, t1.at_.sm s2, tm, fun H3 s3 => ⟨_, rfl, ?_⟩⟩
  rw [eqT_refl]
  refine iteT ?_
  show tOp (rBinOwn L.C (spTmAdd L.C L.eT) E0) _ _ _ H3 _
  refine mk_lit (lit1 60) (lit1 1) (by decide) (by decide) ok_1 fun y1 H4 s4 u1 => ?_
  refine mk_lit (lit1 40) (lit1 1) (by decide) (by decide) ok_6 fun y2 H5 s5 u2 => ?_
  have u1' := u1.sm s5
  obtain ⟨d1, _, _, w1, _⟩ := id u1'
  obtain ⟨d2, _, _, w2, _⟩ := id u2
  refine ⟨y1, y2, d1, d2, _, _, rfl, rfl, w1, w2, y1, y2, [60], [1], [40], [1], rfl, u1', u2, ⟨by decide, by decide, by decide⟩, ⟨by decide, by decide, by decide⟩, fun _ H6 y3 s6 n6 u3 => ?_, fun no => absurd ok_8 (by rw [no]; decide)⟩
  rw [eq_F, eq_P] at u3
  refine mk_lit (lit1 100) (lit1 2) (by decide) (by decide) ok_7 fun y4 H7 s7 u4 => ?_
  have u3' := u3.sm s7
  obtain ⟨d3, _, _, w3, _⟩ := id u3'
  obtain ⟨d4, _, _, w4, _⟩ := id u4
  refine ⟨y3, y4, d3, d4, _, _, rfl, rfl, w3, w4, y3, y4, [100], [2], [100], [2], rfl, u3', u4, fun H8 s8 => ?_⟩
  rw [eqT_refl]
  exact k H8
/-! ### the whole law -/
theorem law_body : defBody sLaw = [stm 0, stm 1, stm 2, stm 3, stm 4, stm 5, stm 6, stm 7, stm 8, stm 9, stm 10, stm 11, stm 12, stm 13, stm 14, stm 15, stm 16, stm 17, stm 18, stm 19, stm 20, stm 21, stm 22, stm 23, stm 24, stm 25, stm 26, stm 27] := rfl
theorem pst_imp {X : Cx} {st : Stmt} {Pre Post Post' : L2.St → Hp → Prop} (a : PSt X st Pre Post) (h : ∀ σ H, Post σ H → Post' σ H) : PSt X st Pre Post' := by
  obtain ⟨t, ht, h1⟩ := a
  exact ⟨t, ht, fun D σ H hp k => h1 D σ H hp fun σ' H' q => k σ' H' (h _ _ q)⟩
theorem law_all (L : LK P w K mg base) (TB : LamX.TabB base mg c tb) (hr : Room 8 (XL P w K mg base f (.ref c) A outer s H0 E).A) : PRest (XL P w K mg base f (.ref c) A outer s H0 E) (defBody sLaw) (J0 K sc tb ns) := by
  rw [law_body]
  refine pst_cons st0 (pst_cons (st1 L hr) (pst_cons (st2 L hr) (pst_cons (st3 L hr) (pst_cons (st4 L hr) (pst_cons (st5 L hr) (pst_cons (st6 L hr) (pst_cons (st7 L hr) (pst_cons (st8 L hr) (pst_cons (st9 L hr) (pst_cons (st10 L hr) (pst_cons (st11 L hr) (pst_cons (st12 L hr) (pst_cons (st13 L hr) (pst_cons (st14 L hr) (pst_cons (st15 L hr)
    (pst_cons (st16 L hr) (pst_cons (st17 L hr) (pst_cons (st18 L hr) (pst_cons (st19 L hr) (pst_cons (st20 L hr) (pst_cons (st21 L hr) (pst_cons (st22 L hr) (pst_cons (pst_imp (st23 L hr) fun _ _ h => j24 h) (pst_cons (st24 L TB hr) (pst_cons (st25 L TB hr) (pst_cons (st26 L TB hr) (st27 L hr)))))))))))))))))))))))))))
/-- law's promise: a list of ints is handed in, its code's table at tb empty: True comes out -/
def spLaw (K : PySem.W.Frag) (tb : Addr) : Sp := fun vs H Q _ => ∃ (sc : Addr) (ns : List Int), vs = [.ref sc] ∧ SqL K H sc (iV ns) ∧ H tb = some (.tbl #[]) ∧ ∀ H', Q (.bl true) H'
theorem ok_law {oc : Value} {od an : Option Addr} {osl : Array (Option Value)} {dV kV doc pm ct : Value} (L : LK P w K mg base) (TB : LamX.TabB base mg c tb)
    (lk : K.lookup f = some ⟨oc, od, .func (PySem.W.fnOf "law" "law" (defArgs sLaw) (defBody sLaw) (defScope sLaw) dV kV doc pm an (.ref c) ct), osl⟩) (hcd : PySem.W.codeIn K (.ref c) "law" = true) :
    FnOk P w K mg base CX0 9 f (PySem.W.fnOf "law" "law" (defArgs sLaw) (defBody sLaw) (defScope sLaw) dV kV doc pm an (.ref c) ct) ["_law_script"] (spLaw K tb) := by
  refine fn_of lk hcd scLaw (fun vs H Q E h => ?_) (fun A outer s H vs Q E hr h => ?_)
  · obtain ⟨sc, ns, rfl, _⟩ := h
    rfl
  · obtain ⟨sc, ns, rfl, hs, ht, k⟩ := h
    obtain ⟨t, ht2, h2⟩ := law_all (f := f) (sc := sc) (ns := ns) (outer := outer) (E := E) (H0 := H) (s := s) L TB hr
    exact ⟨t, ht2.nox, h2 _ _ _ ⟨rfl, hs, ht⟩ k⟩
end
end R49
set_option maxHeartbeats 4000000
/-! binding with defaults; the code table -/
namespace R49
open PySem PySem.Spec PyProof.Rows L2 GenW
section
variable {K : PySem.W.Frag} {f : Addr} {fd : FuncData}
theorem dK {D : Addr} {x : Str} {tk : Tok} (h : PySem.W.nsIn K D x = some (some (.int 0 tk))) : KwdV K (.ref D) [(x, .int 0)] := .inr ⟨D, rfl, fun q hq => by
  have e : q = (x, .int 0) := by simpa using hq
  subst e
  exact ⟨_, h, ⟨_, rfl⟩⟩⟩
/-! ### ticks -/
theorem tk_fun {oc : Value} {od an : Option Addr} {osl : Array (Option Value)} {doc pm cdv ct : Value} {D : Addr} {tk : Tok} (lk : K.lookup f = some ⟨oc, od, .func (PySem.W.fnOf "ticks" "Times.ticks" (defArgs sTmTicks) (defBody sTmTicks) (defScope sTmTicks) .none (.ref D) doc pm an cdv ct), osl⟩)
    (hcd : PySem.W.codeIn K cdv "Times.ticks" = true) (hk : PySem.W.keepIn K (.ref f) = true) (hd : PySem.W.nsIn K D "start" = some (some (.int 0 tk))) :
    ∃ (fd : FuncData) (ds : List Value), TkF K f fd (defScope sTmTicks) ∧ Binds K fd ["self", "start"] ds ∧ Vals [.int 0] ds ∧ (∀ (s : Shared) (p : Addr) (t : Int) (tt : Tok), BindsTo s fd ⟨[.ref p], [("start", .int t tt)]⟩ [("self", .ref p), ("start", .int t tt)]) := by
  have F : FunD K "ticks" "Times.ticks" (defArgs sTmTicks) (defBody sTmTicks) (defScope sTmTicks) [] [("start", .int 0)] f _ := ⟨⟨oc, od, .none, .ref D, doc, pm, an, cdv, ct, osl, rfl, lk, hcd, .inl ⟨rfl, rfl⟩, dK hd⟩, hk⟩
  obtain ⟨ds, hv, hb⟩ := F.binds0 (ps := ["self", "start"]) 1 (by decide) rfl (fun D doc pm an cdv ct us ks h1 h2 => match us, ks, h1, h2 with | [_], [_], _, _ => ⟨_, _, _, _, _, _, rfl, rfl, rfl⟩)
  refine ⟨_, ds, ⟨⟨rfl, rfl, rfl, by decide +kernel, rfl, by decide +kernel, by decide +kernel⟩, ⟨rfl, rfl, rfl, rfl, rfl, rfl⟩, ?_⟩, hb, hv, fun s p t tt => .of_eq rfl⟩
  exact ⟨"Times.ticks", "ticks", defArgs sTmTicks, _, _, _, _, _, _, _, _, _, _, _, _, _, _, _, _, _, _, _, _, _, _, oc, od, .none, .ref D, doc, pm, an, cdv, ct, osl, rfl, lk, hcd⟩
/-! ### lag_lines, behind_rows -/
theorem gen_fun {x : Str} {st : Stmt} {kw : Str} {ps : List Str} {n : Nat} {oc : Value} {od an : Option Addr} {osl : Array (Option Value)} {doc pm cdv ct : Value} {D : Addr} {tk : Tok} (lk : K.lookup f = some ⟨oc, od, .func (PySem.W.fnOf x x (defArgs st) (defBody st) (defScope st) .none (.ref D) doc pm an cdv ct), osl⟩)
    (hcd : PySem.W.codeIn K cdv x = true) (hk : PySem.W.keepIn K (.ref f) = true) (hd : PySem.W.nsIn K D kw = some (some (.int 0 tk))) (hn : n + 1 = ps.length)
    (hb : ∀ (D : Addr) (doc pm : Value) (an : Option Addr) (cdv ct : Value) (us ks : List Value), us.length = n → ks.length = 1 → KwChain D ([kw].zip ks) (bindArgs (PySem.W.fnOf x x (defArgs st) (defBody st) (defScope st) .none (.ref D) doc pm an cdv ct) ⟨us, []⟩) (ps.zip (us ++ ks)))
    (hkb : ∀ (us ws : List Value), us.length = n → ws.length = 1 → bindArgs (PySem.W.fnOf x x (defArgs st) (defBody st) (defScope st) .none (.ref D) doc pm an cdv ct) ⟨us, [kw].zip ws⟩ = pure (ps.zip (us ++ ws))) :
    ∃ ds : List Value, Binds K (PySem.W.fnOf x x (defArgs st) (defBody st) (defScope st) .none (.ref D) doc pm an cdv ct) ps ds ∧ Vals [.int 0] ds ∧ KBn K (PySem.W.fnOf x x (defArgs st) (defBody st) (defScope st) .none (.ref D) doc pm an cdv ct) ps n [kw] (fun us ws => us ++ ws) (fun vs zs => vs ++ zs) := by
  have F : FunD K x x (defArgs st) (defBody st) (defScope st) [] [(kw, .int 0)] f _ := ⟨⟨oc, od, .none, .ref D, doc, pm, an, cdv, ct, osl, rfl, lk, hcd, .inl ⟨rfl, rfl⟩, dK hd⟩, hk⟩
  obtain ⟨ds, hv, hb'⟩ := F.binds0 (ps := ps) n (by simp) hn hb
  exact ⟨ds, hb', hv, ⟨fun s us ws _ l1 l2 => .of_eq (hkb us ws l1 l2), fun r z => r.append z⟩⟩
theorem lines_fun {oc : Value} {od an : Option Addr} {osl : Array (Option Value)} {doc pm cdv ct : Value} {D : Addr} {tk : Tok} (lk : K.lookup f = some ⟨oc, od, .func (PySem.W.fnOf "lag_lines" "lag_lines" (defArgs sLines) (defBody sLines) (defScope sLines) .none (.ref D) doc pm an cdv ct), osl⟩)
    (hcd : PySem.W.codeIn K cdv "lag_lines" = true) (hk : PySem.W.keepIn K (.ref f) = true) (hd : PySem.W.nsIn K D "first" = some (some (.int 0 tk))) :
    ∃ ds : List Value, Binds K (PySem.W.fnOf "lag_lines" "lag_lines" (defArgs sLines) (defBody sLines) (defScope sLines) .none (.ref D) doc pm an cdv ct) ["fed", "read", "many", "first"] ds ∧ Vals [.int 0] ds ∧ KBn K (PySem.W.fnOf "lag_lines" "lag_lines" (defArgs sLines) (defBody sLines) (defScope sLines) .none (.ref D) doc pm an cdv ct) ["fed", "read", "many", "first"] 3 ["first"] (fun us ws => us ++ ws) (fun vs zs => vs ++ zs) :=
  gen_fun (n := 3) lk hcd hk hd rfl (fun D doc pm an cdv ct us ks h1 h2 => match us, ks, h1, h2 with | [_, _, _], [_], _, _ => ⟨_, _, _, _, _, _, rfl, rfl, rfl⟩) (fun us ws h1 h2 => match us, ws, h1, h2 with | [_, _, _], [_], _, _ => rfl)
theorem behind_fun {oc : Value} {od an : Option Addr} {osl : Array (Option Value)} {doc pm cdv ct : Value} {D : Addr} {tk : Tok} (lk : K.lookup f = some ⟨oc, od, .func (PySem.W.fnOf "behind_rows" "behind_rows" (defArgs sBehind) (defBody sBehind) (defScope sBehind) .none (.ref D) doc pm an cdv ct), osl⟩)
    (hcd : PySem.W.codeIn K cdv "behind_rows" = true) (hk : PySem.W.keepIn K (.ref f) = true) (hd : PySem.W.nsIn K D "state" = some (some (.int 0 tk))) :
    ∃ ds : List Value, Binds K (PySem.W.fnOf "behind_rows" "behind_rows" (defArgs sBehind) (defBody sBehind) (defScope sBehind) .none (.ref D) doc pm an cdv ct) ["reader", "lane", "state"] ds ∧ Vals [.int 0] ds ∧ KBn K (PySem.W.fnOf "behind_rows" "behind_rows" (defArgs sBehind) (defBody sBehind) (defScope sBehind) .none (.ref D) doc pm an cdv ct) ["reader", "lane", "state"] 2 ["state"] (fun us ws => us ++ ws) (fun vs zs => vs ++ zs) :=
  gen_fun (n := 2) lk hcd hk hd rfl (fun D doc pm an cdv ct us ks h1 h2 => match us, ks, h1, h2 with | [_, _], [_], _, _ => ⟨_, _, _, _, _, _, rfl, rfl, rfl⟩) (fun us ws h1 h2 => match us, ws, h1, h2 with | [_, _], [_], _, _ => rfl)
/-! ### after -/
theorem after_fun {oc : Value} {od an : Option Addr} {osl : Array (Option Value)} {kV doc pm cdv ct : Value} {T : Addr} {tk : Tok} {tc : Value} {td : Option Addr} {tn : Nat} {tsl : Array (Option Value)} (lk : K.lookup f = some ⟨oc, od, .func (PySem.W.fnOf "after" "Reader.after" (defArgs sRdAfter) (defBody sRdAfter) (defScope sRdAfter) (.ref T) kV doc pm an cdv ct), osl⟩)
    (hcd : PySem.W.codeIn K cdv "Reader.after" = true) (hk : PySem.W.keepIn K (.ref f) = true) (hd : K.lookup T = some ⟨tc, td, .seq #[.int 0 tk] tn, tsl⟩) :
    ∃ (fd : FuncData) (ds : List Value), FunD K "after" "Reader.after" (defArgs sRdAfter) (defBody sRdAfter) (defScope sRdAfter) [.int 0] [] f fd ∧ Binds K fd ["self", "lane", "state"] ds ∧ Vals [.int 0] ds := by
  have F : FunD K "after" "Reader.after" (defArgs sRdAfter) (defBody sRdAfter) (defScope sRdAfter) [.int 0] [] f _ := ⟨⟨oc, od, .ref T, kV, doc, pm, an, cdv, ct, osl, rfl, lk, hcd, .inr ⟨by simp, T, _, [.int 0 tk], tn, rfl, hd, rfl, .cons ⟨_, rfl⟩ .nil⟩, .inl rfl⟩, hk⟩
  obtain ⟨ds, hv, hb⟩ := F.binds1 (ps := ["self", "lane", "state"]) 2 0 (by simp) rfl (fun T kV doc pm an cdv ct us its h1 h2 => match us, its, h1, h2 with | [_, _], [_], _, _ => ⟨_, rfl, rfl⟩)
  exact ⟨_, ds, F, hb, hv⟩
/-! ### the code table -/
theorem tab_at {fa c tb : Addr} {h : Heap} (e : PySem.W.codeHdIn K c tb = true) : ∃ (e0 : Value) (dd : Option Addr) (vs : Array Value) (sl : Array (Option Value)), K.lookup c = some ⟨e0, dd, .fields vs, sl⟩ ∧ vs[11]? = some (.ref tb) := by
  unfold PySem.W.codeHdIn at e
  split at e
  · rename_i vs _ hk
    simp only [Bool.and_eq_true] at e
    obtain ⟨⟨⟨⟨⟨e1, e2⟩, e3⟩, e4⟩, e5⟩, e6⟩ := e
    split at e1
    · rename_i P' hP
      have : P' = tb := by simpa using e1
      subst this
      exact ⟨_, _, _, _, hk, hP⟩
    · cases e1
  · cases e
end
end R49
set_option maxHeartbeats 8000000
/-! all that the top has written, put together (printed by gen_x.py) -/
namespace R49
open PySem PySem.Spec PyProof.Rows L2 GenW
/-- a def of the text stands at f -/
structure FnF (K : PySem.W.Frag) (x qual : Str) (st : Stmt) (f : Addr) : Prop where
  ex : ∃ fd, Fun K x qual st f fd
/-- what a code object's record tells of its table -/
def tabV (vs : Array Value) (c P : Addr) : Bool := (match (vs[11]? : Option Value) with | some (.ref P') => P' == P | _ => false) &&
      (match vs.getD 18 .none with | .str _ _ => true | _ => false) && (match vs.getD 7 .none with | .int _ _ => true | _ => false) &&
      (match vs.getD 9 .none with | .bool _ => true | _ => false) && (match vs.getD 10 .none with | .int _ _ => true | _ => false) && c != P
theorem tab_hd {K : PySem.W.Frag} {c P : Addr} {d : Option Addr} {vs : Array Value} {sl : Array (Option Value)} (h : K.lookup c = some ⟨.type "code", d, .fields vs, sl⟩) (t : tabV vs c P = true) : PySem.W.codeHdIn K c P = true := by
  unfold PySem.W.codeHdIn
  rw [h]
  exact t
theorem dun_add : PySem.dunder Operator.Add.info.2 = "__add__" := by decide +kernel
theorem dun_mul : PySem.dunder Operator.Mult.info.2 = "__mul__" := by decide +kernel
theorem dun_rmul : dunderR Operator.Mult.info.2 = "__rmul__" := by decide +kernel
theorem law_at {l : PySem.W.OpenLaw} {w : World} {K : PySem.W.Frag} {h : Heap} {mg : Str → Option Value} {fa : Addr} (X : K.In h) (G : h.Ns mainGlobals mg) (hfa : mg "law" = some (.ref fa)) (own : LamX.OwnTab K fa h)
    {C R cL cG eT eL eR fis_natural fare_numbers fcommon fnumber_at fsummed fcheck_times fjoint flags fgrowth_of fgreatest_lag fis_word fare_letters fare_steps fcheck_lane fcheck_reader fled f_law_number f_law_take f_law_pick f_law_letters f_law_steps f_law_reader f_law_led f_law_row f_law_first_ticks f_law_lane_refused f_law_wide f_law_lines ftI ftE ftG ftA ftM ftT flI flB fgI fgB frI frL frC frA Dtk Dln Dbh Taf ftk fln fbh faf frf flw cLw tb : Addr} {tk1 tk2 tk3 tk4 tk5 tk6 tk7 tk8 : Tok} {mulfo mulro : Option Value}
    {odtk antk : Option Addr} {sltk : Array (Option Value)} {octk dctk pmtk cdtk cttk : Value}
    {odln anln : Option Addr} {slln : Array (Option Value)} {ocln dcln pmln cdln ctln : Value}
    {odbh anbh : Option Addr} {slbh : Array (Option Value)} {ocbh dcbh pmbh cdbh ctbh : Value}
    {kVaf : Value}
    {odaf anaf : Option Addr} {slaf : Array (Option Value)} {ocaf dcaf pmaf cdaf ctaf : Value}
    {tcaf : Value} {tdaf : Option Addr} {tnaf : Nat} {tslaf : Array (Option Value)}
    {kVrf : Value}
    {odrf anrf : Option Addr} {slrf : Array (Option Value)} {ocrf dcrf pmrf cdrf ctrf : Value}
    {odlw anlw : Option Addr} {sllw : Array (Option Value)} {oclw kVlw dclw pmlw ctlw : Value}
    {ddlw : Option Addr} {vslw : Array Value} {sclw : Array (Option Value)}
    (aC : PySem.W.nsIn K mainGlobals "Times" = some (some (.ref C)))
    (pgC : PySem.W.plainGet K C Str.empty = true)
    (hdC : PySem.W.hasDictIn K C = true)
    (poC : PySem.W.plainOver K C = true)
    (saC : PySem.W.findIn K (.ref C) "__setattr__" = some (some (.builtin "object.__setattr__")))
    (mkC : PySem.W.makesIn K C = true)
    (kcC : PySem.W.keepIn K (.ref C) = true)
    (aR : PySem.W.nsIn K mainGlobals "Reader" = some (some (.ref R)))
    (pgR : PySem.W.plainGet K R Str.empty = true)
    (hdR : PySem.W.hasDictIn K R = true)
    (poR : PySem.W.plainOver K R = true)
    (saR : PySem.W.findIn K (.ref R) "__setattr__" = some (some (.builtin "object.__setattr__")))
    (mkR : PySem.W.makesIn K R = true)
    (kcR : PySem.W.keepIn K (.ref R) = true)
    (acL : PySem.W.nsIn K mainGlobals "Lag" = some (some (.ref cL)))
    (pgcL : PySem.W.plainGet K cL Str.empty = true)
    (hdcL : PySem.W.hasDictIn K cL = true)
    (pocL : PySem.W.plainOver K cL = true)
    (sacL : PySem.W.findIn K (.ref cL) "__setattr__" = some (some (.builtin "object.__setattr__")))
    (mkcL : PySem.W.makesIn K cL = true)
    (kccL : PySem.W.keepIn K (.ref cL) = true)
    (acG : PySem.W.nsIn K mainGlobals "Growing" = some (some (.ref cG)))
    (pgcG : PySem.W.plainGet K cG Str.empty = true)
    (hdcG : PySem.W.hasDictIn K cG = true)
    (pocG : PySem.W.plainOver K cG = true)
    (sacG : PySem.W.findIn K (.ref cG) "__setattr__" = some (some (.builtin "object.__setattr__")))
    (mkcG : PySem.W.makesIn K cG = true)
    (kccG : PySem.W.keepIn K (.ref cG) = true)
    (nC_front : PySem.W.findIn K (.ref C) "front" = some none)
    (nC_period : PySem.W.findIn K (.ref C) "period" = some none)
    (nR_letters : PySem.W.findIn K (.ref R) "letters" = some none)
    (nR_steps : PySem.W.findIn K (.ref R) "steps" = some none)
    (nR_answers : PySem.W.findIn K (.ref R) "answers" = some none)
    (ncL_number : PySem.W.findIn K (.ref cL) "number" = some none)
    (ncL_tick : PySem.W.findIn K (.ref cL) "tick" = some none)
    (ncG_growth : PySem.W.findIn K (.ref cG) "growth" = some none)
    (ncG_period : PySem.W.findIn K (.ref cG) "period" = some none)
    (icC : PySem.W.findIn K (.ref C) "__class__" = some (some (.builtin "object.__class__")))
    (imC : PySem.W.mroIn K C (.type "object") = some true)
    (icR : PySem.W.findIn K (.ref R) "__class__" = some (some (.builtin "object.__class__")))
    (imR : PySem.W.mroIn K R (.type "object") = some true)
    (ig : PySem.W.specialIn K (.builtin "object.__class__") "__get__" = some (some (.builtin "getset_descriptor.__get__")))
    (ik : PySem.W.takesIn K (.builtin "object.__class__") = some true)
    (aeT : PySem.W.nsIn K mainGlobals "BadTimes" = some (some (.ref eT)))
    (xeT : PySem.W.excIn K eT [.type "ValueError", .type "Exception", .type "BaseException", .type "object"] "ValueError.__new__" = true)
    (keT : PySem.W.keepIn K (.ref eT) = true)
    (beT : PySem.W.subIn K (.ref eT) (.type "BaseException") = some true)
    (teT : PySem.W.typeIn K (.ref eT) = some (.type "type"))
    (ieT : PySem.W.isClsIn K eT = true)
    (seT : PySem.W.subIn K (.ref eT) (.ref eT) = some true)
    (aeL : PySem.W.nsIn K mainGlobals "BadLane" = some (some (.ref eL)))
    (xeL : PySem.W.excIn K eL [.type "ValueError", .type "Exception", .type "BaseException", .type "object"] "ValueError.__new__" = true)
    (keL : PySem.W.keepIn K (.ref eL) = true)
    (beL : PySem.W.subIn K (.ref eL) (.type "BaseException") = some true)
    (teL : PySem.W.typeIn K (.ref eL) = some (.type "type"))
    (ieL : PySem.W.isClsIn K eL = true)
    (seL : PySem.W.subIn K (.ref eL) (.ref eL) = some true)
    (aeR : PySem.W.nsIn K mainGlobals "BadReader" = some (some (.ref eR)))
    (xeR : PySem.W.excIn K eR [.type "ValueError", .type "Exception", .type "BaseException", .type "object"] "ValueError.__new__" = true)
    (keR : PySem.W.keepIn K (.ref eR) = true)
    (beR : PySem.W.subIn K (.ref eR) (.type "BaseException") = some true)
    (teR : PySem.W.typeIn K (.ref eR) = some (.type "type"))
    (ieR : PySem.W.isClsIn K eR = true)
    (seR : PySem.W.subIn K (.ref eR) (.ref eR) = some true)
    (noStop : PySem.W.subIn K (.ref eL) (.type "StopIteration") = some false)
    (zMOST_NUMBER : PySem.W.nsIn K mainGlobals "MOST_NUMBER" = some (some (.int 100 tk1)))
    (zMOST_TICKS : PySem.W.nsIn K mainGlobals "MOST_TICKS" = some (some (.int 24 tk2)))
    (zMOST_STATES : PySem.W.nsIn K mainGlobals "MOST_STATES" = some (some (.int 1000 tk3)))
    (zMOST_LETTERS : PySem.W.nsIn K mainGlobals "MOST_LETTERS" = some (some (.int 12 tk4)))
    (z_len : PySem.W.nsIn K mainGlobals "len" = some none)
    (z_range : PySem.W.nsIn K mainGlobals "range" = some none)
    (z_isinstance : PySem.W.nsIn K mainGlobals "isinstance" = some none)
    (z_int : PySem.W.nsIn K mainGlobals "int" = some none)
    (z_bool : PySem.W.nsIn K mainGlobals "bool" = some none)
    (z_list : PySem.W.nsIn K mainGlobals "list" = some none)
    (z_tuple : PySem.W.nsIn K mainGlobals "tuple" = some none)
    (z_dict : PySem.W.nsIn K mainGlobals "dict" = some none)
    (z_str : PySem.W.nsIn K mainGlobals "str" = some none)
    (z_all : PySem.W.nsIn K mainGlobals "all" = some none)
    (z_sum : PySem.W.nsIn K mainGlobals "sum" = some none)
    (z_max : PySem.W.nsIn K mainGlobals "max" = some none)
    (z_zip : PySem.W.nsIn K mainGlobals "zip" = some none)
    (z_abs : PySem.W.nsIn K mainGlobals "abs" = some none)
    (ais_natural : PySem.W.nsIn K mainGlobals "is_natural" = some (some (.ref fis_natural)))
    (Fis_natural : FnF K "is_natural" "is_natural" sNat fis_natural)
    (aare_numbers : PySem.W.nsIn K mainGlobals "are_numbers" = some (some (.ref fare_numbers)))
    (Fare_numbers : FnF K "are_numbers" "are_numbers" sNums fare_numbers)
    (acommon : PySem.W.nsIn K mainGlobals "common" = some (some (.ref fcommon)))
    (Fcommon : FnF K "common" "common" sCommon fcommon)
    (anumber_at : PySem.W.nsIn K mainGlobals "number_at" = some (some (.ref fnumber_at)))
    (Fnumber_at : FnF K "number_at" "number_at" sNum fnumber_at)
    (asummed : PySem.W.nsIn K mainGlobals "summed" = some (some (.ref fsummed)))
    (Fsummed : FnF K "summed" "summed" sSummed fsummed)
    (acheck_times : PySem.W.nsIn K mainGlobals "check_times" = some (some (.ref fcheck_times)))
    (Fcheck_times : FnF K "check_times" "check_times" sChkTm fcheck_times)
    (ajoint : PySem.W.nsIn K mainGlobals "joint" = some (some (.ref fjoint)))
    (Fjoint : FnF K "joint" "joint" sJoint fjoint)
    (alags : PySem.W.nsIn K mainGlobals "lags" = some (some (.ref flags)))
    (Flags : FnF K "lags" "lags" sLags flags)
    (agrowth_of : PySem.W.nsIn K mainGlobals "growth_of" = some (some (.ref fgrowth_of)))
    (Fgrowth_of : FnF K "growth_of" "growth_of" sGrowth fgrowth_of)
    (agreatest_lag : PySem.W.nsIn K mainGlobals "greatest_lag" = some (some (.ref fgreatest_lag)))
    (Fgreatest_lag : FnF K "greatest_lag" "greatest_lag" sGreat fgreatest_lag)
    (ais_word : PySem.W.nsIn K mainGlobals "is_word" = some (some (.ref fis_word)))
    (Fis_word : FnF K "is_word" "is_word" sWord fis_word)
    (aare_letters : PySem.W.nsIn K mainGlobals "are_letters" = some (some (.ref fare_letters)))
    (Fare_letters : FnF K "are_letters" "are_letters" sLetters fare_letters)
    (aare_steps : PySem.W.nsIn K mainGlobals "are_steps" = some (some (.ref fare_steps)))
    (Fare_steps : FnF K "are_steps" "are_steps" sSteps fare_steps)
    (acheck_lane : PySem.W.nsIn K mainGlobals "check_lane" = some (some (.ref fcheck_lane)))
    (Fcheck_lane : FnF K "check_lane" "check_lane" sChkLane fcheck_lane)
    (acheck_reader : PySem.W.nsIn K mainGlobals "check_reader" = some (some (.ref fcheck_reader)))
    (Fcheck_reader : FnF K "check_reader" "check_reader" sChkRd fcheck_reader)
    (aled : PySem.W.nsIn K mainGlobals "led" = some (some (.ref fled)))
    (Fled : FnF K "led" "led" sLed fled)
    (a_law_number : PySem.W.nsIn K mainGlobals "_law_number" = some (some (.ref f_law_number)))
    (F_law_number : FnF K "_law_number" "_law_number" sLNumber f_law_number)
    (a_law_take : PySem.W.nsIn K mainGlobals "_law_take" = some (some (.ref f_law_take)))
    (F_law_take : FnF K "_law_take" "_law_take" sLTake f_law_take)
    (a_law_pick : PySem.W.nsIn K mainGlobals "_law_pick" = some (some (.ref f_law_pick)))
    (F_law_pick : FnF K "_law_pick" "_law_pick" sLPick f_law_pick)
    (a_law_letters : PySem.W.nsIn K mainGlobals "_law_letters" = some (some (.ref f_law_letters)))
    (F_law_letters : FnF K "_law_letters" "_law_letters" sLLetters f_law_letters)
    (a_law_steps : PySem.W.nsIn K mainGlobals "_law_steps" = some (some (.ref f_law_steps)))
    (F_law_steps : FnF K "_law_steps" "_law_steps" sLSteps f_law_steps)
    (a_law_reader : PySem.W.nsIn K mainGlobals "_law_reader" = some (some (.ref f_law_reader)))
    (F_law_reader : FnF K "_law_reader" "_law_reader" sLReader f_law_reader)
    (a_law_led : PySem.W.nsIn K mainGlobals "_law_led" = some (some (.ref f_law_led)))
    (F_law_led : FnF K "_law_led" "_law_led" sLLed f_law_led)
    (a_law_row : PySem.W.nsIn K mainGlobals "_law_row" = some (some (.ref f_law_row)))
    (F_law_row : FnF K "_law_row" "_law_row" sLRow f_law_row)
    (a_law_first_ticks : PySem.W.nsIn K mainGlobals "_law_first_ticks" = some (some (.ref f_law_first_ticks)))
    (F_law_first_ticks : FnF K "_law_first_ticks" "_law_first_ticks" sLFirst f_law_first_ticks)
    (a_law_lane_refused : PySem.W.nsIn K mainGlobals "_law_lane_refused" = some (some (.ref f_law_lane_refused)))
    (F_law_lane_refused : FnF K "_law_lane_refused" "_law_lane_refused" sLLane f_law_lane_refused)
    (a_law_wide : PySem.W.nsIn K mainGlobals "_law_wide" = some (some (.ref f_law_wide)))
    (F_law_wide : FnF K "_law_wide" "_law_wide" sLWide f_law_wide)
    (a_law_lines : PySem.W.nsIn K mainGlobals "_law_lines" = some (some (.ref f_law_lines)))
    (F_law_lines : FnF K "_law_lines" "_law_lines" sLLines f_law_lines)
    (atI : PySem.W.findIn K (.ref C) "__init__" = some (some (.ref ftI)))
    (itI : PySem.W.isFn K (.ref ftI) = true)
    (FtI : FnF K "__init__" "Times.__init__" sTmInit ftI)
    (atE : PySem.W.findIn K (.ref C) "__eq__" = some (some (.ref ftE)))
    (itE : PySem.W.isFn K (.ref ftE) = true)
    (FtE : FnF K "__eq__" "Times.__eq__" sTmEq ftE)
    (atG : PySem.W.findIn K (.ref C) "__getitem__" = some (some (.ref ftG)))
    (itG : PySem.W.isFn K (.ref ftG) = true)
    (FtG : FnF K "__getitem__" "Times.__getitem__" sTmGet ftG)
    (atA : PySem.W.findIn K (.ref C) "__add__" = some (some (.ref ftA)))
    (itA : PySem.W.isFn K (.ref ftA) = true)
    (FtA : FnF K "__add__" "Times.__add__" sTmAdd ftA)
    (atM : PySem.W.findIn K (.ref C) "__mul__" = some (some (.ref ftM)))
    (itM : PySem.W.isFn K (.ref ftM) = true)
    (FtM : FnF K "__mul__" "Times.__mul__" sTmMul ftM)
    (atT : PySem.W.findIn K (.ref C) "at" = some (some (.ref ftT)))
    (itT : PySem.W.isFn K (.ref ftT) = true)
    (FtT : FnF K "at" "Times.at" sTmAt ftT)
    (alI : PySem.W.findIn K (.ref cL) "__init__" = some (some (.ref flI)))
    (ilI : PySem.W.isFn K (.ref flI) = true)
    (FlI : FnF K "__init__" "Lag.__init__" sLagInit flI)
    (alB : PySem.W.findIn K (.ref cL) "__bool__" = some (some (.ref flB)))
    (ilB : PySem.W.isFn K (.ref flB) = true)
    (FlB : FnF K "__bool__" "Lag.__bool__" sLagBool flB)
    (agI : PySem.W.findIn K (.ref cG) "__init__" = some (some (.ref fgI)))
    (igI : PySem.W.isFn K (.ref fgI) = true)
    (FgI : FnF K "__init__" "Growing.__init__" sGrInit fgI)
    (agB : PySem.W.findIn K (.ref cG) "__bool__" = some (some (.ref fgB)))
    (igB : PySem.W.isFn K (.ref fgB) = true)
    (FgB : FnF K "__bool__" "Growing.__bool__" sGrBool fgB)
    (arI : PySem.W.findIn K (.ref R) "__init__" = some (some (.ref frI)))
    (irI : PySem.W.isFn K (.ref frI) = true)
    (FrI : FnF K "__init__" "Reader.__init__" sRdInit frI)
    (arL : PySem.W.findIn K (.ref R) "__len__" = some (some (.ref frL)))
    (irL : PySem.W.isFn K (.ref frL) = true)
    (FrL : FnF K "__len__" "Reader.__len__" sRdLen frL)
    (arC : PySem.W.findIn K (.ref R) "__call__" = some (some (.ref frC)))
    (irC : PySem.W.isFn K (.ref frC) = true)
    (FrC : FnF K "__call__" "Reader.__call__" sRdCall frC)
    (arA : PySem.W.findIn K (.ref R) "answer" = some (some (.ref frA)))
    (irA : PySem.W.isFn K (.ref frA) = true)
    (FrA : FnF K "answer" "Reader.answer" sRdAns frA)
    (sf : PySem.W.selfFirst K C = true)
    (nf : PySem.W.notFirst K C (.ref C) = true)
    (ne : PySem.W.findIn K (.ref C) "__ne__" = some (some (.builtin "object.__ne__")))
    (gn : PySem.W.fnIn K ftG = true)
    (rcf : PySem.W.fnIn K frC = true)
    (mr : PySem.W.findIn K (.ref C) "__rmul__" = some none)
    (m1 : PySem.W.findIn K (.type "int") "__mul__" = some mulfo)
    (m2 : PySem.W.findIn K (.type "int") "__rmul__" = some mulro)
    (m3 : PySem.W.subIn K (.type "int") (.ref C) = some false)
    (atk : PySem.W.findIn K (.ref C) "ticks" = some (some (.ref ftk)))
    (ltk : K.lookup ftk = some ⟨octk, odtk, .func (PySem.W.fnOf "ticks" "Times.ticks" (defArgs sTmTicks) (defBody sTmTicks) (defScope sTmTicks) .none (.ref Dtk) dctk pmtk antk cdtk cttk), sltk⟩)
    (ctk : PySem.W.codeIn K cdtk "Times.ticks" = true)
    (ktk : PySem.W.keepIn K (.ref ftk) = true)
    (itk : PySem.W.isFn K (.ref ftk) = true)
    (dtk : PySem.W.nsIn K Dtk "start" = some (some (.int 0 tk5)))
    (aln : PySem.W.nsIn K mainGlobals "lag_lines" = some (some (.ref fln)))
    (lln : K.lookup fln = some ⟨ocln, odln, .func (PySem.W.fnOf "lag_lines" "lag_lines" (defArgs sLines) (defBody sLines) (defScope sLines) .none (.ref Dln) dcln pmln anln cdln ctln), slln⟩)
    (cln : PySem.W.codeIn K cdln "lag_lines" = true)
    (kln : PySem.W.keepIn K (.ref fln) = true)
    (dln : PySem.W.nsIn K Dln "first" = some (some (.int 0 tk6)))
    (abh : PySem.W.nsIn K mainGlobals "behind_rows" = some (some (.ref fbh)))
    (lbh : K.lookup fbh = some ⟨ocbh, odbh, .func (PySem.W.fnOf "behind_rows" "behind_rows" (defArgs sBehind) (defBody sBehind) (defScope sBehind) .none (.ref Dbh) dcbh pmbh anbh cdbh ctbh), slbh⟩)
    (cbh : PySem.W.codeIn K cdbh "behind_rows" = true)
    (kbh : PySem.W.keepIn K (.ref fbh) = true)
    (dbh : PySem.W.nsIn K Dbh "state" = some (some (.int 0 tk7)))
    (aaf : PySem.W.findIn K (.ref R) "after" = some (some (.ref faf)))
    (laf : K.lookup faf = some ⟨ocaf, odaf, .func (PySem.W.fnOf "after" "Reader.after" (defArgs sRdAfter) (defBody sRdAfter) (defScope sRdAfter) (.ref Taf) kVaf dcaf pmaf anaf cdaf ctaf), slaf⟩)
    (caf : PySem.W.codeIn K cdaf "Reader.after" = true)
    (kaf : PySem.W.keepIn K (.ref faf) = true)
    (iaf : PySem.W.isFn K (.ref faf) = true)
    (daf : K.lookup Taf = some ⟨tcaf, tdaf, .seq #[.int 0 tk8] tnaf, tslaf⟩)
    (arf : PySem.W.nsIn K mainGlobals "_law_is_refused" = some (some (.ref frf)))
    (lrf : K.lookup frf = some ⟨ocrf, odrf, .func (PySem.W.fnOf "_law_is_refused" "_law_is_refused" (defArgs sLRef) (defBody sLRef) (defScope sLRef) .none kVrf dcrf pmrf anrf cdrf ctrf), slrf⟩)
    (crf : PySem.W.codeIn K cdrf "_law_is_refused" = true)
    (krf : PySem.W.keepIn K (.ref frf) = true)
    (alw : PySem.W.nsIn K mainGlobals "law" = some (some (.ref flw)))
    (llw : K.lookup flw = some ⟨oclw, odlw, .func (PySem.W.fnOf "law" "law" (defArgs sLaw) (defBody sLaw) (defScope sLaw) .none kVlw dclw pmlw anlw (.ref cLw) ctlw), sllw⟩)
    (clw : PySem.W.codeIn K (.ref cLw) "law" = true)
    (vlw : K.lookup cLw = some ⟨.type "code", ddlw, .fields vslw, sclw⟩)
    (plw : vslw[11]? = some (.ref tb))
    (hlw : tabV vslw cLw tb = true)
    (tlw : K.lookup tb = none)
    : LamX.LawAtS l w K CX0 9 63 "_law_script" mg fa h := by
  have e := hfa.symm.trans (PySem.W.mg_of X G alw)
  cases e
  have N : NoG mg := ⟨PySem.W.mg_none_of X G z_len, PySem.W.mg_none_of X G z_range, PySem.W.mg_none_of X G z_isinstance, PySem.W.mg_none_of X G z_int, PySem.W.mg_none_of X G z_bool, PySem.W.mg_none_of X G z_list, PySem.W.mg_none_of X G z_tuple, PySem.W.mg_none_of X G z_dict, PySem.W.mg_none_of X G z_str, PySem.W.mg_none_of X G z_all, PySem.W.mg_none_of X G z_sum, PySem.W.mg_none_of X G z_max, PySem.W.mg_none_of X G z_zip, PySem.W.mg_none_of X G z_abs⟩
  obtain ⟨dis_natural, Eis_natural⟩ := Fis_natural.ex
  have Bis_natural : Binds K dis_natural ["thing", "most"] [] := Eis_natural.binds (ps := ["thing", "most"]) fun _ _ _ _ _ _ us hl => match us, hl with | [_, _], _ => rfl
  obtain ⟨dare_numbers, Eare_numbers⟩ := Fare_numbers.ex
  have Bare_numbers : Binds K dare_numbers ["thing"] [] := Eare_numbers.binds (ps := ["thing"]) fun _ _ _ _ _ _ us hl => match us, hl with | [_], _ => rfl
  obtain ⟨dcommon, Ecommon⟩ := Fcommon.ex
  have Bcommon : Binds K dcommon ["one", "two"] [] := Ecommon.binds (ps := ["one", "two"]) fun _ _ _ _ _ _ us hl => match us, hl with | [_, _], _ => rfl
  obtain ⟨dnumber_at, Enumber_at⟩ := Fnumber_at.ex
  have Bnumber_at : Binds K dnumber_at ["front", "period", "tick"] [] := Enumber_at.binds (ps := ["front", "period", "tick"]) fun _ _ _ _ _ _ us hl => match us, hl with | [_, _, _], _ => rfl
  obtain ⟨dsummed, Esummed⟩ := Fsummed.ex
  have Bsummed : Binds K dsummed ["tables"] [] := Esummed.binds (ps := ["tables"]) fun _ _ _ _ _ _ us hl => match us, hl with | [_], _ => rfl
  obtain ⟨dcheck_times, Echeck_times⟩ := Fcheck_times.ex
  have Bcheck_times : Binds K dcheck_times ["thing"] [] := Echeck_times.binds (ps := ["thing"]) fun _ _ _ _ _ _ us hl => match us, hl with | [_], _ => rfl
  obtain ⟨djoint, Ejoint⟩ := Fjoint.ex
  have Bjoint : Binds K djoint ["tables"] [] := Ejoint.binds (ps := ["tables"]) fun _ _ _ _ _ _ us hl => match us, hl with | [_], _ => rfl
  obtain ⟨dlags, Elags⟩ := Flags.ex
  have Blags : Binds K dlags ["fed", "read", "many"] [] := Elags.binds (ps := ["fed", "read", "many"]) fun _ _ _ _ _ _ us hl => match us, hl with | [_, _, _], _ => rfl
  obtain ⟨dgrowth_of, Egrowth_of⟩ := Fgrowth_of.ex
  have Bgrowth_of : Binds K dgrowth_of ["fed", "read"] [] := Egrowth_of.binds (ps := ["fed", "read"]) fun _ _ _ _ _ _ us hl => match us, hl with | [_, _], _ => rfl
  obtain ⟨dgreatest_lag, Egreatest_lag⟩ := Fgreatest_lag.ex
  have Bgreatest_lag : Binds K dgreatest_lag ["fed", "read"] [] := Egreatest_lag.binds (ps := ["fed", "read"]) fun _ _ _ _ _ _ us hl => match us, hl with | [_, _], _ => rfl
  obtain ⟨dis_word, Eis_word⟩ := Fis_word.ex
  have Bis_word : Binds K dis_word ["thing"] [] := Eis_word.binds (ps := ["thing"]) fun _ _ _ _ _ _ us hl => match us, hl with | [_], _ => rfl
  obtain ⟨dare_letters, Eare_letters⟩ := Fare_letters.ex
  have Bare_letters : Binds K dare_letters ["thing"] [] := Eare_letters.binds (ps := ["thing"]) fun _ _ _ _ _ _ us hl => match us, hl with | [_], _ => rfl
  obtain ⟨dare_steps, Eare_steps⟩ := Fare_steps.ex
  have Bare_steps : Binds K dare_steps ["letters", "thing"] [] := Eare_steps.binds (ps := ["letters", "thing"]) fun _ _ _ _ _ _ us hl => match us, hl with | [_, _], _ => rfl
  obtain ⟨dcheck_lane, Echeck_lane⟩ := Fcheck_lane.ex
  have Bcheck_lane : Binds K dcheck_lane ["letters", "lane"] [] := Echeck_lane.binds (ps := ["letters", "lane"]) fun _ _ _ _ _ _ us hl => match us, hl with | [_, _], _ => rfl
  obtain ⟨dcheck_reader, Echeck_reader⟩ := Fcheck_reader.ex
  have Bcheck_reader : Binds K dcheck_reader ["thing"] [] := Echeck_reader.binds (ps := ["thing"]) fun _ _ _ _ _ _ us hl => match us, hl with | [_], _ => rfl
  obtain ⟨dled, Eled⟩ := Fled.ex
  have Bled : Binds K dled ["steps", "lane", "state"] [] := Eled.binds (ps := ["steps", "lane", "state"]) fun _ _ _ _ _ _ us hl => match us, hl with | [_, _, _], _ => rfl
  obtain ⟨d_law_number, E_law_number⟩ := F_law_number.ex
  have B_law_number : Binds K d_law_number ["_law_script", "_law_index"] [] := E_law_number.binds (ps := ["_law_script", "_law_index"]) fun _ _ _ _ _ _ us hl => match us, hl with | [_, _], _ => rfl
  obtain ⟨d_law_take, E_law_take⟩ := F_law_take.ex
  have B_law_take : Binds K d_law_take ["_law_draw", "_law_many"] [] := E_law_take.binds (ps := ["_law_draw", "_law_many"]) fun _ _ _ _ _ _ us hl => match us, hl with | [_, _], _ => rfl
  obtain ⟨d_law_pick, E_law_pick⟩ := F_law_pick.ex
  have B_law_pick : Binds K d_law_pick ["_law_draw", "_law_items"] [] := E_law_pick.binds (ps := ["_law_draw", "_law_items"]) fun _ _ _ _ _ _ us hl => match us, hl with | [_, _], _ => rfl
  obtain ⟨d_law_letters, E_law_letters⟩ := F_law_letters.ex
  have B_law_letters : Binds K d_law_letters ["_law_draw"] [] := E_law_letters.binds (ps := ["_law_draw"]) fun _ _ _ _ _ _ us hl => match us, hl with | [_], _ => rfl
  obtain ⟨d_law_steps, E_law_steps⟩ := F_law_steps.ex
  have B_law_steps : Binds K d_law_steps ["_law_draw", "_law_letters_here", "_law_many"] [] := E_law_steps.binds (ps := ["_law_draw", "_law_letters_here", "_law_many"]) fun _ _ _ _ _ _ us hl => match us, hl with | [_, _, _], _ => rfl
  obtain ⟨d_law_reader, E_law_reader⟩ := F_law_reader.ex
  have B_law_reader : Binds K d_law_reader ["_law_draw", "_law_letters_here"] [] := E_law_reader.binds (ps := ["_law_draw", "_law_letters_here"]) fun _ _ _ _ _ _ us hl => match us, hl with | [_, _], _ => rfl
  obtain ⟨d_law_led, E_law_led⟩ := F_law_led.ex
  have B_law_led : Binds K d_law_led ["_law_steps_here", "_law_lane", "_law_state"] [] := E_law_led.binds (ps := ["_law_steps_here", "_law_lane", "_law_state"]) fun _ _ _ _ _ _ us hl => match us, hl with | [_, _, _], _ => rfl
  obtain ⟨d_law_row, E_law_row⟩ := F_law_row.ex
  have B_law_row : Binds K d_law_row ["_law_draw", "_law_many", "_law_most"] [] := E_law_row.binds (ps := ["_law_draw", "_law_many", "_law_most"]) fun _ _ _ _ _ _ us hl => match us, hl with | [_, _, _], _ => rfl
  obtain ⟨d_law_first_ticks, E_law_first_ticks⟩ := F_law_first_ticks.ex
  have B_law_first_ticks : Binds K d_law_first_ticks ["_law_times", "_law_start", "_law_many"] [] := E_law_first_ticks.binds (ps := ["_law_times", "_law_start", "_law_many"]) fun _ _ _ _ _ _ us hl => match us, hl with | [_, _, _], _ => rfl
  obtain ⟨d_law_lane_refused, E_law_lane_refused⟩ := F_law_lane_refused.ex
  have B_law_lane_refused : Binds K d_law_lane_refused ["_law_reader_here"] [] := E_law_lane_refused.binds (ps := ["_law_reader_here"]) fun _ _ _ _ _ _ us hl => match us, hl with | [_], _ => rfl
  obtain ⟨d_law_wide, E_law_wide⟩ := F_law_wide.ex
  have B_law_wide : Binds K d_law_wide ["_law_number_here", "_law_places"] [] := E_law_wide.binds (ps := ["_law_number_here", "_law_places"]) fun _ _ _ _ _ _ us hl => match us, hl with | [_, _], _ => rfl
  obtain ⟨d_law_lines, E_law_lines⟩ := F_law_lines.ex
  have B_law_lines : Binds K d_law_lines ["_law_fed", "_law_read", "_law_first", "_law_many"] [] := E_law_lines.binds (ps := ["_law_fed", "_law_read", "_law_first", "_law_many"]) fun _ _ _ _ _ _ us hl => match us, hl with | [_, _, _, _], _ => rfl
  obtain ⟨dtI, EtI⟩ := FtI.ex
  have BtI : Binds K dtI ["self", "front", "period"] [] := EtI.binds (ps := ["self", "front", "period"]) fun _ _ _ _ _ _ us hl => match us, hl with | [_, _, _], _ => rfl
  have MtI : Meth K C "__init__" ftI := ⟨atI, itI, EtI.kp⟩
  obtain ⟨dtE, EtE⟩ := FtE.ex
  have BtE : Binds K dtE ["self", "other"] [] := EtE.binds (ps := ["self", "other"]) fun _ _ _ _ _ _ us hl => match us, hl with | [_, _], _ => rfl
  have MtE : Meth K C "__eq__" ftE := ⟨atE, itE, EtE.kp⟩
  obtain ⟨dtG, EtG⟩ := FtG.ex
  have BtG : Binds K dtG ["self", "tick"] [] := EtG.binds (ps := ["self", "tick"]) fun _ _ _ _ _ _ us hl => match us, hl with | [_, _], _ => rfl
  have MtG : Meth K C "__getitem__" ftG := ⟨atG, itG, EtG.kp⟩
  obtain ⟨dtA, EtA⟩ := FtA.ex
  have BtA : Binds K dtA ["self", "other"] [] := EtA.binds (ps := ["self", "other"]) fun _ _ _ _ _ _ us hl => match us, hl with | [_, _], _ => rfl
  have MtA : Meth K C "__add__" ftA := ⟨atA, itA, EtA.kp⟩
  obtain ⟨dtM, EtM⟩ := FtM.ex
  have BtM : Binds K dtM ["self", "other"] [] := EtM.binds (ps := ["self", "other"]) fun _ _ _ _ _ _ us hl => match us, hl with | [_, _], _ => rfl
  have MtM : Meth K C "__mul__" ftM := ⟨atM, itM, EtM.kp⟩
  obtain ⟨dtT, EtT⟩ := FtT.ex
  have BtT : Binds K dtT ["self", "tick"] [] := EtT.binds (ps := ["self", "tick"]) fun _ _ _ _ _ _ us hl => match us, hl with | [_, _], _ => rfl
  have MtT : Meth K C "at" ftT := ⟨atT, itT, EtT.kp⟩
  obtain ⟨dlI, ElI⟩ := FlI.ex
  have BlI : Binds K dlI ["self", "number", "tick"] [] := ElI.binds (ps := ["self", "number", "tick"]) fun _ _ _ _ _ _ us hl => match us, hl with | [_, _, _], _ => rfl
  have MlI : Meth K cL "__init__" flI := ⟨alI, ilI, ElI.kp⟩
  obtain ⟨dlB, ElB⟩ := FlB.ex
  have BlB : Binds K dlB ["self"] [] := ElB.binds (ps := ["self"]) fun _ _ _ _ _ _ us hl => match us, hl with | [_], _ => rfl
  have MlB : Meth K cL "__bool__" flB := ⟨alB, ilB, ElB.kp⟩
  obtain ⟨dgI, EgI⟩ := FgI.ex
  have BgI : Binds K dgI ["self", "growth", "period"] [] := EgI.binds (ps := ["self", "growth", "period"]) fun _ _ _ _ _ _ us hl => match us, hl with | [_, _, _], _ => rfl
  have MgI : Meth K cG "__init__" fgI := ⟨agI, igI, EgI.kp⟩
  obtain ⟨dgB, EgB⟩ := FgB.ex
  have BgB : Binds K dgB ["self"] [] := EgB.binds (ps := ["self"]) fun _ _ _ _ _ _ us hl => match us, hl with | [_], _ => rfl
  have MgB : Meth K cG "__bool__" fgB := ⟨agB, igB, EgB.kp⟩
  obtain ⟨drI, ErI⟩ := FrI.ex
  have BrI : Binds K drI ["self", "letters", "steps", "answers"] [] := ErI.binds (ps := ["self", "letters", "steps", "answers"]) fun _ _ _ _ _ _ us hl => match us, hl with | [_, _, _, _], _ => rfl
  have MrI : Meth K R "__init__" frI := ⟨arI, irI, ErI.kp⟩
  obtain ⟨drL, ErL⟩ := FrL.ex
  have BrL : Binds K drL ["self"] [] := ErL.binds (ps := ["self"]) fun _ _ _ _ _ _ us hl => match us, hl with | [_], _ => rfl
  have MrL : Meth K R "__len__" frL := ⟨arL, irL, ErL.kp⟩
  obtain ⟨drC, ErC⟩ := FrC.ex
  have BrC : Binds K drC ["self", "lane"] [] := ErC.binds (ps := ["self", "lane"]) fun _ _ _ _ _ _ us hl => match us, hl with | [_, _], _ => rfl
  have MrC : Meth K R "__call__" frC := ⟨arC, irC, ErC.kp⟩
  obtain ⟨drA, ErA⟩ := FrA.ex
  have BrA : Binds K drA ["self", "lane"] [] := ErA.binds (ps := ["self", "lane"]) fun _ _ _ _ _ _ us hl => match us, hl with | [_, _], _ => rfl
  have MrA : Meth K R "answer" frA := ⟨arA, irA, ErA.kp⟩
  have clC : Cls K C := ⟨pgC, hdC, poC, saC⟩
  have clR : Cls K R := ⟨pgR, hdR, poR, saR⟩
  have clcL : Cls K cL := ⟨pgcL, hdcL, pocL, sacL⟩
  have clcG : Cls K cG := ⟨pgcG, hdcG, pocG, sacG⟩
  have T : TmT K mg C := ⟨clC, nC_front, nC_period, PySem.W.mg_of X G aC, icC, ig, ik, imC⟩
  have TR : RdT K mg R := ⟨clR, nR_letters, nR_steps, nR_answers, PySem.W.mg_of X G aR, icR, ig, ik, imR⟩
  have TL : TwoT K mg "Lag" "number" "tick" cL := ⟨clcL, ncL_number, ncL_tick, PySem.W.mg_of X G acL⟩
  have TG : TwoT K mg "Growing" "growth" "period" cG := ⟨clcG, ncG_growth, ncG_period, PySem.W.mg_of X G acG⟩
  have XeT : ExC K mg "BadTimes" eT := ⟨xeT, PySem.W.mg_of X G aeT, keT, beT, teT, ieT, seT⟩
  have XeL : ExC K mg "BadLane" eL := ⟨xeL, PySem.W.mg_of X G aeL, keL, beL, teL, ieL, seL⟩
  have XeR : ExC K mg "BadReader" eR := ⟨xeR, PySem.W.mg_of X G aeR, keR, beR, teR, ieR, seR⟩
  have KC : Mk K C ftI := ⟨mkC, atI, itI, kcC⟩
  have KR : Mk K R frI := ⟨mkR, arI, irI, kcR⟩
  have KcL : Mk K cL flI := ⟨mkcL, alI, ilI, kccL⟩
  have KcG : Mk K cG fgI := ⟨mkcG, agI, igI, kccG⟩
  obtain ⟨dtk0, dstk, Ftk, Btk, Vtk, Htk⟩ := tk_fun ltk ctk ktk dtk
  obtain ⟨dsln, Bln, Vln, KBln⟩ := lines_fun lln cln kln dln
  obtain ⟨dsbh, Bbh, Vbh, KBbh⟩ := behind_fun lbh cbh kbh dbh
  obtain ⟨daf0, dsaf, Faf, Baf, Vaf⟩ := after_fun laf caf kaf daf
  have hrf : Binds K (PySem.W.fnOf "_law_is_refused" "_law_is_refused" (defArgs sLRef) (defBody sLRef) (defScope sLRef) .none kVrf dcrf pmrf anrf cdrf ctrf) ["_law_deed"] [] := .all fun us hl => match us, hl with | [_], _ => rfl
  refine ⟨PySem.W.fnOf "law" "law" (defArgs sLaw) (defBody sLaw) (defScope sLaw) .none kVlw dclw pmlw anlw (.ref cLw) ctlw, [(cLw, tb)], spLaw K tb, fun p hp => ?_, fun p hp => ?_, fun p hp => ?_, fun s u => .of_eq rfl, fun H a ns _ _ hT hS => ⟨a, ns, rfl, hS, hT (cLw, tb) (List.mem_singleton.mpr rfl), fun _ => rfl⟩, fun base KB GB hTB => ?_⟩
  · rw [List.mem_singleton.mp hp]
    exact own cLw tb _ _ _ ddlw vslw sclw llw rfl rfl vlw plw
  · rw [List.mem_singleton.mp hp]
    exact tlw
  · rw [List.mem_singleton.mp hp]
    exact PySem.W.codeHd_of_K X (tab_hd vlw hlw)
  have cis_natural : Cal l.prog w K mg base CX0 1 "is_natural" fis_natural dis_natural ["thing", "most"] spNat := ⟨ok_nat Eis_natural N, PySem.W.mg_of X G ais_natural, Eis_natural.kp, Bis_natural⟩
  have care_numbers : Cal l.prog w K mg base CX0 2 "are_numbers" fare_numbers dare_numbers ["thing"] spNums := ⟨ok_nums Eare_numbers N (PySem.W.mg_of X G zMOST_TICKS) (PySem.W.mg_of X G zMOST_NUMBER) cis_natural, PySem.W.mg_of X G aare_numbers, Eare_numbers.kp, Bare_numbers⟩
  have ccommon : Cal l.prog w K mg base CX0 1 "common" fcommon dcommon ["one", "two"] spCommon := ⟨ok_common Ecommon, PySem.W.mg_of X G acommon, Ecommon.kp, Bcommon⟩
  have cnumber_at : Cal l.prog w K mg base CX0 1 "number_at" fnumber_at dnumber_at ["front", "period", "tick"] (spNum K) := ⟨ok_num Enumber_at N, PySem.W.mg_of X G anumber_at, Enumber_at.kp, Bnumber_at⟩
  have csummed : Cal l.prog w K mg base CX0 2 "summed" fsummed dsummed ["tables"] (spSummed K) := ⟨ok_summed Esummed N cnumber_at ccommon, PySem.W.mg_of X G asummed, Esummed.kp, Bsummed⟩
  have oI : FnOk l.prog w K mg base (L2.CX l.prog w) 3 ftI dtI ["self", "front", "period"] (spTmInit C eT) := ok_tmInit EtI N T XeT care_numbers
  have oT : CalM l.prog w K mg base CX0 2 C "at" ftT dtT ["self", "tick"] (spTmAt C) := ⟨ok_tmAt EtT T cnumber_at, MtT, BtT⟩
  have ccheck_times : Cal l.prog w K mg base CX0 1 "check_times" fcheck_times dcheck_times ["thing"] (spChkTm C) := ⟨ok_chkTm Echeck_times T XeT N, PySem.W.mg_of X G acheck_times, Echeck_times.kp, Bcheck_times⟩
  have cjoint : Cal l.prog w K mg base CX0 2 "joint" fjoint djoint ["tables"] (spJoint K C) := ⟨ok_joint Ejoint N T ccommon, PySem.W.mg_of X G ajoint, Ejoint.kp, Bjoint⟩
  have clags : Cal l.prog w K mg base CX0 3 "lags" flags dlags ["fed", "read", "many"] (spLags C) := ⟨ok_lags Elags N T oT, PySem.W.mg_of X G alags, Elags.kp, Blags⟩
  have cgrowth_of : Cal l.prog w K mg base CX0 3 "growth_of" fgrowth_of dgrowth_of ["fed", "read"] (spGrowth C) := ⟨ok_growth Egrowth_of N T cjoint, PySem.W.mg_of X G agrowth_of, Egrowth_of.kp, Bgrowth_of⟩
  have cgreatest_lag : Cal l.prog w K mg base CX0 4 "greatest_lag" fgreatest_lag dgreatest_lag ["fed", "read"] (spGreat C cL cG) := ⟨ok_great Egreatest_lag N ccheck_times cgrowth_of cjoint clags KcL TL (ok_lagI ElI TL) BlI KcG TG (ok_grI EgI TG) BgI, PySem.W.mg_of X G agreatest_lag, Egreatest_lag.kp, Bgreatest_lag⟩
  have oLn : GFn l.prog w K mg base 4 fln _ ["fed", "read", "many", "first"] (spLines C) := ok_lines rfl lln cln N T ccheck_times clags oT
  have cis_word : Cal l.prog w K mg base CX0 1 "is_word" fis_word dis_word ["thing"] spWord := ⟨ok_word Eis_word N, PySem.W.mg_of X G ais_word, Eis_word.kp, Bis_word⟩
  have care_letters : Cal l.prog w K mg base CX0 2 "are_letters" fare_letters dare_letters ["thing"] spLet := ⟨ok_let Eare_letters N (PySem.W.mg_of X G zMOST_LETTERS) cis_word, PySem.W.mg_of X G aare_letters, Eare_letters.kp, Bare_letters⟩
  have care_steps : Cal l.prog w K mg base CX0 1 "are_steps" fare_steps dare_steps ["letters", "thing"] spSteps := ⟨ok_steps Eare_steps N (PySem.W.mg_of X G zMOST_STATES), PySem.W.mg_of X G aare_steps, Eare_steps.kp, Bare_steps⟩
  have oRI : FnOk l.prog w K mg base CX0 3 frI drI ["self", "letters", "steps", "answers"] (spRdInit R) := ok_rdInit ErI N TR XeR cis_word care_letters care_steps
  have ccheck_lane : Cal l.prog w K mg base (L2.CX l.prog w) 1 "check_lane" fcheck_lane dcheck_lane ["letters", "lane"] (spChkLane eL) := ⟨ok_chkLane Echeck_lane N XeL, PySem.W.mg_of X G acheck_lane, Echeck_lane.kp, Bcheck_lane⟩
  have ccheck_reader : Cal l.prog w K mg base CX0 1 "check_reader" fcheck_reader dcheck_reader ["thing"] (spChkRd R) := ⟨ok_chkRd Echeck_reader TR XeR N, PySem.W.mg_of X G acheck_reader, Echeck_reader.kp, Bcheck_reader⟩
  have cled : Cal l.prog w K mg base CX0 1 "led" fled dled ["steps", "lane", "state"] (spLed K) := ⟨ok_led Eled, PySem.W.mg_of X G aled, Eled.kp, Bled⟩
  have oAf : FnOk l.prog w K mg base CX0 2 faf daf0 ["self", "lane", "state"] (spAfter R) := ok_after Faf TR ccheck_lane cled
  have oAn : CalM l.prog w K mg base CX0 3 R "answer" frA drA ["self", "lane"] (spAnswer R) := ⟨ok_answer ErA TR oAf ⟨aaf, iaf, kaf⟩ Baf Vaf, MrA, BrA⟩
  have oBh : GFn l.prog w K mg base 2 fbh _ ["reader", "lane", "state"] (spBehind R) := ok_behind rfl lbh cbh TR ccheck_reader ccheck_lane
  have oBx : GFx l.prog w K mg base 2 fbh _ ["reader", "lane", "state"] (spBehindX R eL) := ok_behindX rfl lbh cbh TR ccheck_reader ccheck_lane
  have c_law_number : Cal l.prog w K mg base CX0 1 "_law_number" f_law_number d_law_number ["_law_script", "_law_index"] (spLNumber K) := ⟨ok_lnumber E_law_number N, PySem.W.mg_of X G a_law_number, E_law_number.kp, B_law_number⟩
  have c_law_take : Cal l.prog w K mg base CX0 2 "_law_take" f_law_take d_law_take ["_law_draw", "_law_many"] (spTake K) := ⟨ok_take E_law_take N c_law_number, PySem.W.mg_of X G a_law_take, E_law_take.kp, B_law_take⟩
  have c_pL : Cal l.prog w K mg base CX0 3 "_law_pick" f_law_pick d_law_pick ["_law_draw", "_law_items"] (spPickL K) := ⟨ok_pickL E_law_pick N c_law_take, PySem.W.mg_of X G a_law_pick, E_law_pick.kp, B_law_pick⟩
  have c_pT : Cal l.prog w K mg base CX0 3 "_law_pick" f_law_pick d_law_pick ["_law_draw", "_law_items"] (spPickT K) := ⟨ok_pickT E_law_pick N c_law_take, PySem.W.mg_of X G a_law_pick, E_law_pick.kp, B_law_pick⟩
  have c_law_letters : Cal l.prog w K mg base CX0 4 "_law_letters" f_law_letters d_law_letters ["_law_draw"] (spLL K) := ⟨ok_ll E_law_letters c_pL c_law_take, PySem.W.mg_of X G a_law_letters, E_law_letters.kp, B_law_letters⟩
  have c_law_steps : Cal l.prog w K mg base CX0 3 "_law_steps" f_law_steps d_law_steps ["_law_draw", "_law_letters_here", "_law_many"] (spLSteps K) := ⟨ok_lsteps E_law_steps N c_law_take, PySem.W.mg_of X G a_law_steps, E_law_steps.kp, B_law_steps⟩
  have c_law_reader : Cal l.prog w K mg base CX0 4 "_law_reader" f_law_reader d_law_reader ["_law_draw", "_law_letters_here"] (spLReader K) := ⟨ok_lreader E_law_reader N c_law_take c_law_steps c_pL, PySem.W.mg_of X G a_law_reader, E_law_reader.kp, B_law_reader⟩
  have c_law_led : Cal l.prog w K mg base CX0 1 "_law_led" f_law_led d_law_led ["_law_steps_here", "_law_lane", "_law_state"] (spLed K) := ⟨ok_lled E_law_led, PySem.W.mg_of X G a_law_led, E_law_led.kp, B_law_led⟩
  have c_law_row : Cal l.prog w K mg base CX0 3 "_law_row" f_law_row d_law_row ["_law_draw", "_law_many", "_law_most"] (spRow K) := ⟨ok_row E_law_row N c_law_take, PySem.W.mg_of X G a_law_row, E_law_row.kp, B_law_row⟩
  have t0 : TkT0 l.prog w K mg base 1 fnumber_at C dnumber_at := ⟨T, cnumber_at⟩
  have mtk : Meth K C "ticks" ftk := ⟨atk, itk, ktk⟩
  have c_law_first_ticks : Cal l.prog w K mg base CX0 4 "_law_first_ticks" f_law_first_ticks d_law_first_ticks ["_law_times", "_law_start", "_law_many"] (spFirst C) := ⟨ok_first E_law_first_ticks N t0 Ftk mtk Htk, PySem.W.mg_of X G a_law_first_ticks, E_law_first_ticks.kp, B_law_first_ticks⟩
  have c_law_lane_refused : Cal l.prog w K mg base CX0 4 "_law_lane_refused" f_law_lane_refused d_law_lane_refused ["_law_reader_here"] (spLaneRef R) := ⟨ok_laneRef E_law_lane_refused XeL noStop oBx (PySem.W.mg_of X G abh) kbh Bbh Vbh, PySem.W.mg_of X G a_law_lane_refused, E_law_lane_refused.kp, B_law_lane_refused⟩
  have c_law_wide : Cal l.prog w K mg base CX0 1 "_law_wide" f_law_wide d_law_wide ["_law_number_here", "_law_places"] spWide := ⟨ok_wide E_law_wide N, PySem.W.mg_of X G a_law_wide, E_law_wide.kp, B_law_wide⟩
  have c_law_lines : Cal l.prog w K mg base CX0 3 "_law_lines" f_law_lines d_law_lines ["_law_fed", "_law_read", "_law_first", "_law_many"] (spLLines C) := ⟨ok_llines E_law_lines N T oT c_law_wide, PySem.W.mg_of X G a_law_lines, E_law_lines.kp, B_law_lines⟩
  have L : LK l.prog w K mg base := { C := C, R := R, cL := cL, cG := cG, eT := eT, N := N, T := T, TR := TR, ET := XeT, TL := TL, TG := TG, fTake := f_law_take, dTake := d_law_take, take := c_law_take, fPick := f_law_pick, dPick := d_law_pick, pick := c_pT, fLL := f_law_letters, dLL := d_law_letters, ll := c_law_letters, fRd := f_law_reader, dRd := d_law_reader, lrd := c_law_reader, fRow := f_law_row, dRow := d_law_row, row := c_law_row, fLed := f_law_led, dLed := d_law_led, lled := c_law_led, fFirst := f_law_first_ticks, dFirst := d_law_first_ticks, first := c_law_first_ticks, fLane := f_law_lane_refused, dLane := d_law_lane_refused, lane := c_law_lane_refused, fLines := f_law_lines, dLines := d_law_lines, llines := c_law_lines, fGreat := fgreatest_lag, dGreat := dgreatest_lag, great := cgreatest_lag, fRI := frI, dRI := drI, MR := KR, FRI := oRI, bRI := BrI, fRC := frC, dRC := drC, rcall := ⟨arC, irC, rcf⟩, FRC := ok_rdCall ErC TR oAn, bRC := BrC, fRL := frL, dRL := drL, lenF := arL, lenI := irL, FRL := ok_rdLen ErL N TR, bRL := BrL, fB := fbh, dB := _, GB := oBh, gB := PySem.W.mg_of X G abh, kB := kbh, kbB := KBbh, dsB := dsbh, bB := Bbh, vB := Vbh, fTI := ftI, dTI := dtI, MT := KC, FTI := oI, bTI := BtI, sf := sf, fAdd := ftA, dAdd := dtA, addF := by rw [dun_add]; exact atA, addI := itA, FAdd := ok_tmAdd EtA T KC oI BtI csummed, bAdd := BtA, fMul := ftM, dMul := dtM, mulF := by rw [dun_mul]; exact atM, mulI := itM, FMul := ok_tmMul EtM T KC oI BtI, bMul := BtM, mulR := by rw [dun_rmul]; exact mr, mulfo := mulfo, mulro := mulro, mul1 := by rw [dun_mul]; exact m1, mul2 := by rw [dun_rmul]; exact m2, mul3 := m3, nf := nf, fEq := ftE, dEq := dtE, eqF := atE, eqI := itE, FEq := ok_tmEq EtE T N, bEq := BtE, neF := ne, fGi := ftG, dGi := dtG, giF := atG, giN := gn, giI := itG, FGi := ok_tmGet EtG T cnumber_at, bGi := BtG, fAt := ftT, dAt := dtT, at_ := oT, fLn := fln, dLn := _, GLn := oLn, gLn := PySem.W.mg_of X G aln, kLn := kln, kbLn := KBln, dsLn := dsln, bLn := Bln, vLn := Vln, fNum := fnumber_at, dNum := dnumber_at, T0 := t0, fTk := ftk, dTk := dtk0, FTk := Ftk, mTk := mtk, dsTk := dstk, bTk := Btk, vTk := Vtk, fLB := flB, dLB := dlB, lbF := alB, lbI := ilB, FLB := ok_lagB ElB, bLB := BlB, fGB := fgB, dGB := dgB, gbF := agB, gbI := igB, FGB := ok_grB EgB, bGB := BgB, fRf := frf, rf := ⟨_, _, _, _, _, _, _, _, _, _, lrf, crf, hrf⟩, gRf := PySem.W.mg_of X G arf, kRf := krf }
  exact ok_law L (hTB (cLw, tb) (List.mem_singleton.mpr rfl)) llw clw
end R49
open PySem PySem.W PyProof.Rows
set_option maxRecDepth 100000 in
set_option maxHeartbeats 0 in
theorem PySem.Challenge.cw_allbrokers_k49_whole_reader_shapes_holds : PySem.Challenge.rw_allbrokers_k49_whole_reader_shapes.Holds := by
  w_on; o_law; k_head; (case hw => w_witness2)
  k_fill
  refine LamX.walk_ofOwn (l := PySem.Challenge.rw_allbrokers_k49_whole_reader_shapes) (n := 63) (k := 9) (CX := fun _ => L2.CX0) (x := "_law_script") rfl (by decide) rfl ⟨rfl, by decide, by decide⟩ (by decide +kernel) (fun w h Y => PySem.W.km_in_of Y) ?F (fun _ _ _ _ _ z => z)
  case F =>
    intro w mg fa h Y KX G hmg own
    refine' R49.law_at KX G hmg own ?aC ?pgC ?hdC ?poC ?saC ?mkC ?kcC ?aR ?pgR ?hdR ?poR ?saR ?mkR ?kcR ?acL ?pgcL ?hdcL ?pocL ?sacL ?mkcL ?kccL ?acG ?pgcG ?hdcG ?pocG ?sacG ?mkcG ?kccG ?nC_front ?nC_period ?nR_letters ?nR_steps ?nR_answers ?ncL_number ?ncL_tick ?ncG_growth ?ncG_period ?icC ?imC ?icR ?imR ?ig ?ik ?aeT ?xeT ?keT ?beT ?teT ?ieT ?seT ?aeL ?xeL ?keL ?beL ?teL ?ieL ?seL ?aeR ?xeR ?keR ?beR ?teR ?ieR ?seR ?noStop ?zMOST_NUMBER ?zMOST_TICKS ?zMOST_STATES ?zMOST_LETTERS ?z_len ?z_range ?z_isinstance ?z_int ?z_bool ?z_list ?z_tuple ?z_dict ?z_str ?z_all ?z_sum ?z_max ?z_zip ?z_abs ?ais_natural ?Fis_natural ?aare_numbers ?Fare_numbers ?acommon ?Fcommon ?anumber_at ?Fnumber_at ?asummed ?Fsummed ?acheck_times ?Fcheck_times ?ajoint ?Fjoint ?alags ?Flags ?agrowth_of ?Fgrowth_of ?agreatest_lag ?Fgreatest_lag ?ais_word ?Fis_word ?aare_letters ?Fare_letters ?aare_steps ?Fare_steps ?acheck_lane ?Fcheck_lane ?acheck_reader ?Fcheck_reader ?aled ?Fled ?a_law_number ?F_law_number ?a_law_take ?F_law_take ?a_law_pick ?F_law_pick ?a_law_letters ?F_law_letters ?a_law_steps ?F_law_steps ?a_law_reader ?F_law_reader ?a_law_led ?F_law_led ?a_law_row ?F_law_row ?a_law_first_ticks ?F_law_first_ticks ?a_law_lane_refused ?F_law_lane_refused ?a_law_wide ?F_law_wide ?a_law_lines ?F_law_lines ?atI ?itI ?FtI ?atE ?itE ?FtE ?atG ?itG ?FtG ?atA ?itA ?FtA ?atM ?itM ?FtM ?atT ?itT ?FtT ?alI ?ilI ?FlI ?alB ?ilB ?FlB ?agI ?igI ?FgI ?agB ?igB ?FgB ?arI ?irI ?FrI ?arL ?irL ?FrL ?arC ?irC ?FrC ?arA ?irA ?FrA ?sf ?nf ?ne ?gn ?rcf ?mr ?m1 ?m2 ?m3 ?atk ?ltk ?ctk ?ktk ?itk ?dtk ?aln ?lln ?cln ?kln ?dln ?abh ?lbh ?cbh ?kbh ?dbh ?aaf ?laf ?caf ?kaf ?iaf ?daf ?arf ?lrf ?crf ?krf ?alw ?llw ?clw ?vlw ?plw ?hlw ?tlw
    (case aC => k_is)
    (case pgC => k_is)
    (case hdC => k_is)
    (case poC => k_is)
    (case saC => k_is)
    (case mkC => k_is)
    (case kcC => k_is)
    (case aR => k_is)
    (case pgR => k_is)
    (case hdR => k_is)
    (case poR => k_is)
    (case saR => k_is)
    (case mkR => k_is)
    (case kcR => k_is)
    (case acL => k_is)
    (case pgcL => k_is)
    (case hdcL => k_is)
    (case pocL => k_is)
    (case sacL => k_is)
    (case mkcL => k_is)
    (case kccL => k_is)
    (case acG => k_is)
    (case pgcG => k_is)
    (case hdcG => k_is)
    (case pocG => k_is)
    (case sacG => k_is)
    (case mkcG => k_is)
    (case kccG => k_is)
    (case nC_front => k_is)
    (case nC_period => k_is)
    (case nR_letters => k_is)
    (case nR_steps => k_is)
    (case nR_answers => k_is)
    (case ncL_number => k_is)
    (case ncL_tick => k_is)
    (case ncG_growth => k_is)
    (case ncG_period => k_is)
    (case icC => k_is)
    (case imC => k_is)
    (case icR => k_is)
    (case imR => k_is)
    (case ig => k_is)
    (case ik => k_is)
    (case aeT => k_is)
    (case xeT => k_exc)
    (case keT => k_is)
    (case beT => k_is)
    (case teT => k_is)
    (case ieT => k_is)
    (case seT => first | rfl | k_is)
    (case aeL => k_is)
    (case xeL => k_exc)
    (case keL => k_is)
    (case beL => k_is)
    (case teL => k_is)
    (case ieL => k_is)
    (case seL => first | rfl | k_is)
    (case aeR => k_is)
    (case xeR => k_exc)
    (case keR => k_is)
    (case beR => k_is)
    (case teR => k_is)
    (case ieR => k_is)
    (case seR => first | rfl | k_is)
    (case noStop => k_is)
    (case zMOST_NUMBER => k_is)
    (case zMOST_TICKS => k_is)
    (case zMOST_STATES => k_is)
    (case zMOST_LETTERS => k_is)
    (case z_len => k_is)
    (case z_range => k_is)
    (case z_isinstance => k_is)
    (case z_int => k_is)
    (case z_bool => k_is)
    (case z_list => k_is)
    (case z_tuple => k_is)
    (case z_dict => k_is)
    (case z_str => k_is)
    (case z_all => k_is)
    (case z_sum => k_is)
    (case z_max => k_is)
    (case z_zip => k_is)
    (case z_abs => k_is)
    (case ais_natural => k_is)
    (case Fis_natural => (refine' ⟨⟨_, L2.fun_mk ?l ?c ?k⟩⟩; (case l => k_is); (case c => k_is); (case k => k_is)))
    (case aare_numbers => k_is)
    (case Fare_numbers => (refine' ⟨⟨_, L2.fun_mk ?l ?c ?k⟩⟩; (case l => k_is); (case c => k_is); (case k => k_is)))
    (case acommon => k_is)
    (case Fcommon => (refine' ⟨⟨_, L2.fun_mk ?l ?c ?k⟩⟩; (case l => k_is); (case c => k_is); (case k => k_is)))
    (case anumber_at => k_is)
    (case Fnumber_at => (refine' ⟨⟨_, L2.fun_mk ?l ?c ?k⟩⟩; (case l => k_is); (case c => k_is); (case k => k_is)))
    (case asummed => k_is)
    (case Fsummed => (refine' ⟨⟨_, L2.fun_mk ?l ?c ?k⟩⟩; (case l => k_is); (case c => k_is); (case k => k_is)))
    (case acheck_times => k_is)
    (case Fcheck_times => (refine' ⟨⟨_, L2.fun_mk ?l ?c ?k⟩⟩; (case l => k_is); (case c => k_is); (case k => k_is)))
    (case ajoint => k_is)
    (case Fjoint => (refine' ⟨⟨_, L2.fun_mk ?l ?c ?k⟩⟩; (case l => k_is); (case c => k_is); (case k => k_is)))
    (case alags => k_is)
    (case Flags => (refine' ⟨⟨_, L2.fun_mk ?l ?c ?k⟩⟩; (case l => k_is); (case c => k_is); (case k => k_is)))
    (case agrowth_of => k_is)
    (case Fgrowth_of => (refine' ⟨⟨_, L2.fun_mk ?l ?c ?k⟩⟩; (case l => k_is); (case c => k_is); (case k => k_is)))
    (case agreatest_lag => k_is)
    (case Fgreatest_lag => (refine' ⟨⟨_, L2.fun_mk ?l ?c ?k⟩⟩; (case l => k_is); (case c => k_is); (case k => k_is)))
    (case ais_word => k_is)
    (case Fis_word => (refine' ⟨⟨_, L2.fun_mk ?l ?c ?k⟩⟩; (case l => k_is); (case c => k_is); (case k => k_is)))
    (case aare_letters => k_is)
    (case Fare_letters => (refine' ⟨⟨_, L2.fun_mk ?l ?c ?k⟩⟩; (case l => k_is); (case c => k_is); (case k => k_is)))
    (case aare_steps => k_is)
    (case Fare_steps => (refine' ⟨⟨_, L2.fun_mk ?l ?c ?k⟩⟩; (case l => k_is); (case c => k_is); (case k => k_is)))
    (case acheck_lane => k_is)
    (case Fcheck_lane => (refine' ⟨⟨_, L2.fun_mk ?l ?c ?k⟩⟩; (case l => k_is); (case c => k_is); (case k => k_is)))
    (case acheck_reader => k_is)
    (case Fcheck_reader => (refine' ⟨⟨_, L2.fun_mk ?l ?c ?k⟩⟩; (case l => k_is); (case c => k_is); (case k => k_is)))
    (case aled => k_is)
    (case Fled => (refine' ⟨⟨_, L2.fun_mk ?l ?c ?k⟩⟩; (case l => k_is); (case c => k_is); (case k => k_is)))
    (case a_law_number => k_is)
    (case F_law_number => (refine' ⟨⟨_, L2.fun_mk ?l ?c ?k⟩⟩; (case l => k_is); (case c => k_is); (case k => k_is)))
    (case a_law_take => k_is)
    (case F_law_take => (refine' ⟨⟨_, L2.fun_mk ?l ?c ?k⟩⟩; (case l => k_is); (case c => k_is); (case k => k_is)))
    (case a_law_pick => k_is)
    (case F_law_pick => (refine' ⟨⟨_, L2.fun_mk ?l ?c ?k⟩⟩; (case l => k_is); (case c => k_is); (case k => k_is)))
    (case a_law_letters => k_is)
    (case F_law_letters => (refine' ⟨⟨_, L2.fun_mk ?l ?c ?k⟩⟩; (case l => k_is); (case c => k_is); (case k => k_is)))
    (case a_law_steps => k_is)
    (case F_law_steps => (refine' ⟨⟨_, L2.fun_mk ?l ?c ?k⟩⟩; (case l => k_is); (case c => k_is); (case k => k_is)))
    (case a_law_reader => k_is)
    (case F_law_reader => (refine' ⟨⟨_, L2.fun_mk ?l ?c ?k⟩⟩; (case l => k_is); (case c => k_is); (case k => k_is)))
    (case a_law_led => k_is)
    (case F_law_led => (refine' ⟨⟨_, L2.fun_mk ?l ?c ?k⟩⟩; (case l => k_is); (case c => k_is); (case k => k_is)))
    (case a_law_row => k_is)
    (case F_law_row => (refine' ⟨⟨_, L2.fun_mk ?l ?c ?k⟩⟩; (case l => k_is); (case c => k_is); (case k => k_is)))
    (case a_law_first_ticks => k_is)
    (case F_law_first_ticks => (refine' ⟨⟨_, L2.fun_mk ?l ?c ?k⟩⟩; (case l => k_is); (case c => k_is); (case k => k_is)))
    (case a_law_lane_refused => k_is)
    (case F_law_lane_refused => (refine' ⟨⟨_, L2.fun_mk ?l ?c ?k⟩⟩; (case l => k_is); (case c => k_is); (case k => k_is)))
    (case a_law_wide => k_is)
    (case F_law_wide => (refine' ⟨⟨_, L2.fun_mk ?l ?c ?k⟩⟩; (case l => k_is); (case c => k_is); (case k => k_is)))
    (case a_law_lines => k_is)
    (case F_law_lines => (refine' ⟨⟨_, L2.fun_mk ?l ?c ?k⟩⟩; (case l => k_is); (case c => k_is); (case k => k_is)))
    (case atI => k_is)
    (case itI => k_is)
    (case FtI => (refine' ⟨⟨_, L2.fun_mk ?l ?c ?k⟩⟩; (case l => k_is); (case c => k_is); (case k => k_is)))
    (case atE => k_is)
    (case itE => k_is)
    (case FtE => (refine' ⟨⟨_, L2.fun_mk ?l ?c ?k⟩⟩; (case l => k_is); (case c => k_is); (case k => k_is)))
    (case atG => k_is)
    (case itG => k_is)
    (case FtG => (refine' ⟨⟨_, L2.fun_mk ?l ?c ?k⟩⟩; (case l => k_is); (case c => k_is); (case k => k_is)))
    (case atA => k_is)
    (case itA => k_is)
    (case FtA => (refine' ⟨⟨_, L2.fun_mk ?l ?c ?k⟩⟩; (case l => k_is); (case c => k_is); (case k => k_is)))
    (case atM => k_is)
    (case itM => k_is)
    (case FtM => (refine' ⟨⟨_, L2.fun_mk ?l ?c ?k⟩⟩; (case l => k_is); (case c => k_is); (case k => k_is)))
    (case atT => k_is)
    (case itT => k_is)
    (case FtT => (refine' ⟨⟨_, L2.fun_mk ?l ?c ?k⟩⟩; (case l => k_is); (case c => k_is); (case k => k_is)))
    (case alI => k_is)
    (case ilI => k_is)
    (case FlI => (refine' ⟨⟨_, L2.fun_mk ?l ?c ?k⟩⟩; (case l => k_is); (case c => k_is); (case k => k_is)))
    (case alB => k_is)
    (case ilB => k_is)
    (case FlB => (refine' ⟨⟨_, L2.fun_mk ?l ?c ?k⟩⟩; (case l => k_is); (case c => k_is); (case k => k_is)))
    (case agI => k_is)
    (case igI => k_is)
    (case FgI => (refine' ⟨⟨_, L2.fun_mk ?l ?c ?k⟩⟩; (case l => k_is); (case c => k_is); (case k => k_is)))
    (case agB => k_is)
    (case igB => k_is)
    (case FgB => (refine' ⟨⟨_, L2.fun_mk ?l ?c ?k⟩⟩; (case l => k_is); (case c => k_is); (case k => k_is)))
    (case arI => k_is)
    (case irI => k_is)
    (case FrI => (refine' ⟨⟨_, L2.fun_mk ?l ?c ?k⟩⟩; (case l => k_is); (case c => k_is); (case k => k_is)))
    (case arL => k_is)
    (case irL => k_is)
    (case FrL => (refine' ⟨⟨_, L2.fun_mk ?l ?c ?k⟩⟩; (case l => k_is); (case c => k_is); (case k => k_is)))
    (case arC => k_is)
    (case irC => k_is)
    (case FrC => (refine' ⟨⟨_, L2.fun_mk ?l ?c ?k⟩⟩; (case l => k_is); (case c => k_is); (case k => k_is)))
    (case arA => k_is)
    (case irA => k_is)
    (case FrA => (refine' ⟨⟨_, L2.fun_mk ?l ?c ?k⟩⟩; (case l => k_is); (case c => k_is); (case k => k_is)))
    (case sf => k_is)
    (case nf => k_is)
    (case ne => k_is)
    (case gn => k_is)
    (case rcf => k_is)
    (case mr => k_is)
    (case m1 => k_is)
    (case m2 => k_is)
    (case m3 => k_is)
    (case atk => k_is)
    (case ltk => k_is)
    (case ctk => k_is)
    (case ktk => k_is)
    (case itk => k_is)
    (case dtk => k_is)
    (case aln => k_is)
    (case lln => k_is)
    (case cln => k_is)
    (case kln => k_is)
    (case dln => k_is)
    (case abh => k_is)
    (case lbh => k_is)
    (case cbh => k_is)
    (case kbh => k_is)
    (case dbh => k_is)
    (case aaf => k_is)
    (case laf => k_is)
    (case caf => k_is)
    (case kaf => k_is)
    (case iaf => k_is)
    (case daf => k_is)
    (case arf => k_is)
    (case lrf => k_is)
    (case crf => k_is)
    (case krf => k_is)
    (case alw => k_is)
    (case llw => k_is)
    (case clw => k_is)
    (case vlw => k_is)
    (case plw => first | rfl | k_is | (simp; rfl))
    (case hlw => first | rfl | kernel_rfl | decide +kernel)
    (case tlw => first | k_is | rfl | decide +kernel)
