import PyProof.Rows.All
import Wide.All
import OpenK.AllK
import Wide.FinOn
import KE.KStar
import KE.KFmtOwn
import HandS.ForMost
import HandS.More
import HandS.Words
import HandS.Defaults
import HandS.Star
import HandS.ClsMeth
import HandS.OwnEq
import KE.KOwnIter
import HandS.IterVal
import KE.KSuper
import KE.KParD
import HandS.DictComp
import KE.KStateDown
import HandS.IsInst
import HandS.Head0
import HandS.Head1
import HandS.Head2
import HandS.HeadEnd
import HandS.HeadHook1
import HandS.HeadHook2
import HandS.FStr
import HandS.SetKeys
import HandS.Strs
import HandS.TupAny
import HandS.Conv
import HandS.NoneIn
import HandS.Style
import HandS.Wide
import HandS.DeepEq
import HandS.MethStar
import HandS.Walk
import HandS.TupSets
import HandS.SetTxt0
import PyProof.Rows.SortShellAny
import PyProof.Rows.StrIntSpec
import PyProof.NeKinds
import HandS.MakeKw
import HandS.Dict
import KE.GoesMore
import PyProof.EnumMake
import HandS.RaiseMore
import HandS.ReCall
import HandS.TryOnly
import PySem.Challenge.RW_onelongturn_k22_whole_tables_and_their_p
set_option Elab.async false
set_option linter.all false
set_option maxRecDepth 100000
set_option maxHeartbeats 2000000
/-! R1: rules over the hand layer: defs by positional promises, own instances by operators. -/
namespace K22
open PySem PySem.Spec PyProof.Rows L2

/-- a def's promise that lets nothing out -/
abbrev Fn (P : Program) (w : World) (K : PySem.W.Frag) (mg : Str → Option Value) (base : Heap) (k : Nat) (f : Addr) (sp : Sp) : Prop := FnR P w K mg base CX0 k f sp
abbrev FnX (X : Cx) (k : Nat) (f : Addr) (sp : Sp) : Prop := Fn X.prog X.w X.K X.mg X.base k f sp

theorem vals1 (a : Addr) : Vals [V.ref a] [Value.ref a] := .cons rfl .nil
theorem vals2 (a b : Addr) : Vals [V.ref a, V.ref b] [Value.ref a, Value.ref b] := .cons rfl (.cons rfl .nil)
theorem vals2x (a : Addr) {x : V} {u : Value} (r : RelV x u) : Vals [V.ref a, x] [Value.ref a, u] := .cons rfl (.cons r .nil)
section
variable {X : Cx} {pins : List (Addr × Obj)} {σ : L2.St} {H : Hp} {s : Shared}
/-- a def called somewhere below the running body -/
theorem run_fnA {k : Nat} {f : Addr} {sp : Sp} {Q : VK} {us : List Value} {vs : List V} {A : Around} (F : FnX X k f sp) (hr : Room k A) (hA : A.frames = X.A.frames) (I : Inv X pins σ H s) (r : Vals vs us) (h : sp vs H Q E0) {E : Value → Shared → Prop} :
    wpAny (model X.prog X.w) A (call (.ref f) us) (EP X pins σ Q) E s := by
  have e := I.env0
  have e0 : Env0 X.prog X.w X.K X.mg X.base A X.stack s H := ⟨by rw [hA]; exact e.frames, e.mod, e.bs, e.bsz, e.funs, e.frf, e.hok, e.bare⟩
  refine wpAny_call (codeAny_mono (F A X.stack s H us vs Q E0 hr e0 r h) fun r s' hq => ?_)
  cases r with
  | error e => exact hq.elim
  | ok fl =>
    cases fl with
    | ret u => exact I.after hq
    | next => exact False.elim hq
    | brk => exact False.elim hq
    | cont => exact False.elim hq
theorem inst_of {a C dx : Addr} {fs : List (Str × V)} (I : Inv X pins σ H s) (e : H a = some (.ins C dx fs)) : ∃ od, PySem.W.InstAt s.heap a (PySem.W.instObj C dx) C (some od) := by
  obtain ⟨mA, O, _⟩ := ins_get I.hok e
  obtain ⟨od, J, _⟩ := O.look
  exact ⟨od, J⟩
theorem EP_notNI {Q : VK} {u : Value} {s' : Shared} (h : EP X pins σ Q u s') : PySem.W.CmpBack (EP X pins σ Q) u s' := by
  obtain ⟨v, H', I, r, q⟩ := id h
  cases v with
  | non => cases (show u = Value.none from r); exact h
  | bl b => cases (show u = Value.bool b from r); exact h
  | int i => obtain ⟨t, e⟩ := (show ∃ t, u = Value.int i t from r); cases e; exact h
  | str x => obtain ⟨t, e⟩ := (show ∃ t, u = Value.str x t from r); cases e; exact h
  | byt b => obtain ⟨t, e⟩ := (show ∃ t, u = Value.bytes b t from r); cases e; exact h
  | flt b => obtain ⟨t, e⟩ := (show ∃ t, u = Value.float b t from r); cases e; exact h
  | ref a => cases (show u = Value.ref a from r); exact h
  | ty n => cases (show u = Value.type n from r); exact h
end

/-! ### operators of own instances -/
section
variable {X : Cx} {k n : Nat} {f : Addr} {sp : Sp}
/-- a < b and its like, both own instances, by the text's own method at f -/
def rOwn2 (K : PySem.W.Frag) (f : Addr) (m : Str) (sp : Sp) : R2 := fun x y H Q => ∃ a C dx fs b D dy gs, x = .ref a ∧ y = .ref b ∧ H a = some (.ins C dx fs) ∧ H b = some (.ins D dy gs) ∧ Meth K C m f ∧ PySem.W.notFirst K C (.ref D) = true ∧ sp [.ref a, .ref b] H Q E0
theorem op_cmpO {op : CmpOp} (F : FnX X k f sp) (hr : Room n X.A) (hop : ∀ u v : Value, compareOp op u v = richCompare op u v := by intro _ _; rfl) (hk : k ≤ n := by decide) : OpR X (compareOp op) (rOwn2 X.K f (cmpInfo op).2.1 sp) := by
  intro pins s σ H x y v u Q I rx ry hq
  obtain ⟨a, C, dx, fs, b, D, dy, gs, rfl, rfl, ha, hb, M, hn, q⟩ := hq
  cases rx
  cases ry
  obtain ⟨od, J⟩ := inst_of I ha
  obtain ⟨od', J'⟩ := inst_of I hb
  obtain ⟨m, hF⟩ := I.fr
  rw [hop]
  refine PySem.W.cmp_K (op := op) (tb := .ref D) hr.units0 hF I.ok.mod.kin J J'.type hn M.at_ M.fn ?_
  exact wpAny_mono (run_fnA F (hr.mono hk) rfl I (vals2 a b) q) (fun v s' z => EP_notNI z) fun _ _ e => e
theorem op_binO {op : Operator} (F : FnX X k f sp) (hr : Room n X.A) (hk : k ≤ n := by decide) : OpR X (binaryOp op) (fun x y H Q => ∃ a C dx fs b dy gs, x = .ref a ∧ y = .ref b ∧ H a = some (.ins C dx fs) ∧ H b = some (.ins C dy gs) ∧ Meth X.K C (PySem.dunder op.info.2) f ∧ PySem.W.selfFirst X.K C = true ∧ sp [.ref a, .ref b] H Q E0) := by
  intro pins s σ H x y v u Q I rx ry hq
  obtain ⟨a, C, dx, fs, b, dy, gs, rfl, rfl, ha, hb, M, hn, q⟩ := hq
  cases rx
  cases ry
  obtain ⟨od, J⟩ := inst_of I ha
  obtain ⟨od', J'⟩ := inst_of I hb
  obtain ⟨m, hF⟩ := I.fr
  refine PySem.W.binop_K hF I.ok.mod.kin J J'.type hn M.at_ M.fn ?_
  exact wpAny_mono (run_fnA F (hr.mono hk) rfl I (vals2 a b) q) (fun v s' z => EP_notNI z) fun _ _ e => e
/-- v in o, not in: by the own __contains__, that answers a bool -/
def rInO (K : PySem.W.Frag) (f : Addr) (sp : Sp) (neg : Bool) : R2 := fun x y H Q => ∃ a C dx fs, y = .ref a ∧ H a = some (.ins C dx fs) ∧ Meth K C "__contains__" f ∧ sp [.ref a, x] H (fun z H' => ∃ b, z = .bl b ∧ Q (.bl (neg != b)) H') E0
theorem op_inO (F : FnX X k f sp) (hr : Room n X.A) (hk : k ≤ n := by decide) : OpR X (compareOp .In) (rInO X.K f sp false) := by
  intro pins s σ H x y v u Q I rx ry hq
  obtain ⟨a, C, dx, fs, rfl, ha, M, q⟩ := hq
  cases ry
  obtain ⟨od, J⟩ := inst_of I ha
  obtain ⟨m, hF⟩ := I.fr
  refine PySem.W.in_K hF I.ok.mod.kin J M.at_ M.fn ?_
  refine wpAny_mono (run_fnA F (hr.mono hk) rfl I (vals2x a rx) q) (fun v s' z => ?_) fun _ _ e => e
  obtain ⟨z, H', I', r, b, rfl, q⟩ := z
  cases r
  exact wpAny_truthy_bool ⟨.bl b, H', I', rfl, by cases b <;> exact q⟩
theorem op_notInO (F : FnX X k f sp) (hr : Room n X.A) (hk : k ≤ n := by decide) : OpR X (compareOp .NotIn) (rInO X.K f sp true) := by
  intro pins s σ H x y v u Q I rx ry hq
  obtain ⟨a, C, dx, fs, rfl, ha, M, q⟩ := hq
  cases ry
  obtain ⟨od, J⟩ := inst_of I ha
  obtain ⟨m, hF⟩ := I.fr
  refine PySem.W.notIn_K hF I.ok.mod.kin J M.at_ M.fn ?_
  refine wpAny_mono (run_fnA F (hr.mono hk) rfl I (vals2x a rx) q) (fun v s' z => ?_) fun _ _ e => e
  obtain ⟨z, H', I', r, b, rfl, q⟩ := z
  cases r
  exact wpAny_truthy_bool ⟨.bl (!b), H', I', rfl, by cases b <;> exact q⟩
/-- len(o) by the own __len__ -/
theorem call_lenO (F : FnX X k f sp) (hr : Room n X.A) (hk : k + 1 ≤ n := by decide) : CallR X (.builtin "len") (fun vs H Q => ∃ a C dx fs, vs = [.ref a] ∧ H a = some (.ins C dx fs) ∧ Meth X.K C "__len__" f ∧ sp [.ref a] H (fun z H' => ∃ i : Int, z = .int i ∧ (0 ≤ i ∧ i < 2 ^ 63) ∧ Q (.int i) H') E0) := by
  intro pins s σ H us vs Q I r hq
  obtain ⟨a, C, dx, fs, rfl, ha, M, q⟩ := hq
  cases r with
  | cons r rn =>
  cases r
  cases rn
  obtain ⟨od, J⟩ := inst_of I ha
  obtain ⟨m, hF⟩ := I.fr
  refine PySem.W.len_K hF I.ok.mod.kin J M.at_ M.fn ?_
  refine wpAny_mono (run_fnA F (hr.mono hk).in1 rfl I (vals1 a) q) (fun v s' z => ?_) fun _ _ e => e
  obtain ⟨z, H', I', r, i, rfl, b, q⟩ := z
  obtain ⟨t, rfl⟩ := r
  exact ⟨b, .int i, H', I'.tok _, ⟨_, rfl⟩, q⟩
end
end K22
/-! ### str(o) by the own __str__ -/
namespace PySem.W
open PySem PySem.Spec PySem.Calls PyProof.Rows Builtin Builtin.Str
section
variable {prog : Program} {w : World} {A : Around} {E : Value → Shared → Prop} {s : Shared} {K : Frag} {x C f : Addr} {ox : Obj} {od : Option Obj}
theorem k22_str {Q : Value → Shared → Prop} (hu : A.in1.in1.units < cLine) (X : K.In s.heap) (I : InstAt s.heap x ox C od) (hs : findIn K (.ref C) "__str__" = some (some (.ref f))) (hf : isFn K (.ref f) = true)
    (h : wpAny (model prog w) A.in1.in1 (call (.ref f) [.ref x]) (StrBack Q) E s) : wpAny (model prog w) A (call (.type "str") [.ref x]) Q E s := by
  refine callType_codes (T := "str") (Bi := Builtin.«object.__init__») (Q₁ := fun r s₁ => ∃ y u, r = .str y u ∧ Q r s₁) PySem.F.called_str (PySem.F.typeCall_str_1 _) PySem.F.entry_object_init ?_ ?_
  · refine codeAny_of_tree ?_
    show wpAny _ A.in1.in1 (do checkBuiltinCall "str.__new__" ⟨[.type "str", .ref x], []⟩; again (.builtin "str.__new__" ⟨[.type "str", .ref x], []⟩)) _ _ s
    refine wpAny_bind (wpAny_of_eq (PySem.F.newCall_str_1 _) (wpAny_pure ⟨plainId_quiet (by decide +kernel) _, codeAny_builtin PySem.F.entry_str_new ?_⟩))
    rw [Around.under_plainId (by decide +kernel) _]
    rw [str_new_tree]
    refine wpAny_bind (wpAny_pure ?_)
    refine wpAny_bind (wpAny_of_eq isSubtype_str_str ?_)
    have key : wpAny (model prog w) A.in1.in1 (PySem.Builtin.Str.strOf (.ref x)) (fun r s₁ => ∃ y u, r = .str y u ∧ Q r s₁) E s := by
      unfold PySem.Builtin.Str.strOf
      rw [show isExactStr (.ref x) = false from rfl]
      refine wpAny_bind (m := cRoomFor _ _) (wpAny_cRoomFor hu ?_)
      refine wpAny_bind (m := callSpecial? (.ref x) (Str.ofString "__str__")) (special_fn X I hs (beq_iff_eq.mp hf) (wpAny_mono h (fun r s' z => ?_) fun _ _ y => y))
      cases r <;> first | exact z.elim | exact wpAny_pure ⟨_, _, rfl, z⟩
    exact wpAny_bind (wpAny_mono key (fun r s₁ hr => wpAny_pure hr) fun _ _ y => y)
  · rintro obj s₁ ⟨y, u, rfl, hq⟩
    exact ⟨typeIs_str _ _ _, PySem.F.args_object_init_2 _ _, object_init_meets PySem.F.called_str.init.lookup PySem.F.called_str.made (by decide) prog w A.in1 _ s₁ ⟨typeIs_str _ _ _, rfl, hq⟩⟩
theorem k22_slot_ne : Slot "object" "__ne__" "object.__ne__" :=
  Slot.of (T := "object") (name := "__ne__") (owner := "object") (n := "__ne__") (by rw [typeLookup_type, builtinLookup_eq_fast]; kernel_rfl) (by decide +kernel) (by decide +kernel) (by decide +kernel)
    (by first | exact .inl (by decide +kernel) | exact .inr (by decide +kernel)) (by rw [isSubtype_type]; kernel_rfl)
theorem k22_ifBoundB {M : Model} {name : Str} {id : String} {args : List Value} {Q : Option Value → Shared → Prop} (X : K.In s.heap) (I : InstAt s.heap x ox C od) (hs : findIn K (.ref C) name = some (some (.builtin id)))
    (hb : ∀ self, bindSpecial (.builtin id) self = pure (.builtin id, [self])) (h : wpAny M A (call (.builtin id) (.ref x :: args)) (fun v => Q (some v)) E s) : wpAny M A (callSpecialIfBound? (.ref x) name args) Q E s := by
  simp only [callSpecialIfBound?, bindSpecialIfBound?]
  refine wpAny_holding (wpAny_bind (wpAny_bind (wpAny_bind (I.type.here ((looks_findIn X hs).here ?_)))))
  refine wpAny_bind (wpAny_askSetting (wpAny_ite ?_))
  have fin : wpAny M A (call (.builtin id) ([.ref x] ++ args) >>= fun v => pure (some v)) Q E s := wpAny_bind (wpAny_mono h (fun v s' h' => wpAny_pure h') fun _ _ h' => h')
  split
  · exact wpAny_bind ((Looks.of_pure (hb _)).here (wpAny_pure (by exact fin)))
  · exact wpAny_tryCatch (wpAny_bind ((Looks.of_pure (hb _)).here (wpAny_pure (by exact fin))))
/-- o != p where the class has an own __eq__ and no __ne__ -/
theorem k22_ne {L : Addr} {h₀ : Heap} {m : Str → Option Value} {b tb : Value} {Q : Value → Shared → Prop} (hu : A.in1.units < cLine) (hu0 : A.units < cLine) (FR : Fr h₀ L s.heap m) (X₀ : K.In h₀) (I : InstAt s.heap x ox C od) (hb : Looks (model prog w) s.heap (typeOf b) tb) (hn : notFirst K C tb = true)
    (hs : findIn K (.ref C) "__ne__" = some (some (.builtin "object.__ne__"))) (hm : mroIn K C (.type "object") = some true) (he : findIn K (.ref C) "__eq__" = some (some (.ref f))) (hf : isFn K (.ref f) = true)
    (h : wpAny (model prog w) A.in1 (call (.ref f) [.ref x, b]) (fun v s' => ∃ r, v = .bool r ∧ Q (.bool (!r)) s') E s) : wpAny (model prog w) A (richCompare .NotEq (.ref x) b) Q E s := by
  have X := X₀.keeps FR.keep
  have two : wpAny (model prog w) A (call (.builtin "object.__ne__") [.ref x, b]) (fun v s' => ∃ r, v = .bool r ∧ Q v s') E s := by
    refine wpAny_call (codeAny_call_builtin k22_slot_ne.plain F.cmpEntry_ne (check_slot (i := "object.__ne__") (owner := "object") (n := "__ne__") F.cmpKind_ne F.cmpSplit_ne (I.type.andThen (looks_mroIn X hm)) (F.cmpArgs_ne _ _) ?_))
    unfold Builtin.«object.__ne__»
    refine wpAny_bind (m := slotArgs "__ne__" 1 _) (wpAny_pure ?_)
    refine wpAny_bind (m := cRoomFor _ _) (wpAny_cRoomFor hu ?_)
    refine wpAny_bind (m := callSpecialIfBound? (.ref x) (Str.ofString "__eq__") _) (ifBound_K X I he hf (wpAny_mono h (fun r s' hq => ?_) fun _ _ y => y))
    obtain ⟨r, rfl, hq⟩ := hq
    refine wpAny_bind (m := truthy (.bool _)) (wpAny_truthy_bool ?_)
    exact wpAny_pure ⟨_, rfl, hq⟩
  have one : wpAny (model prog w) A (tryCompare (.ref x) (cmpInfo .NotEq).2.1 b) (fun r s' => ∃ v, r = some v ∧ Q v s') E s := by
    unfold tryCompare
    refine wpAny_bind (k22_ifBoundB X I hs k22_slot_ne.bind (wpAny_mono two (fun v s' hv => ?_) fun _ _ e => e))
    obtain ⟨r, rfl, hq⟩ := hv
    exact wpAny_pure ⟨_, rfl, hq⟩
  unfold richCompare
  simp only [oneThing_ref]
  refine wpAny_holding (wpAny_bind (wpAny_cRoomFor hu0 ?_))
  refine wpAny_bind (I.type.here (wpAny_bind (hb.here ?_)))
  split
  · rename_i q
    have e : subIn K tb (.ref C) = some false := by
      rcases Bool.or_eq_true_iff.mp hn with e | e
      · rw [beq_iff_eq.mp e] at q; simp at q
      · exact beq_iff_eq.mp e
    refine wpAny_bind ((looks_subIn X e).here ?_)
    simp only [Bool.false_eq_true, if_false]
    refine wpAny_bind (wpAny_mono one (fun r s' z => ?_) fun _ _ e => e)
    obtain ⟨v, rfl, hq⟩ := z
    exact wpAny_pure hq
  · refine wpAny_bind (wpAny_pure ?_)
    simp only [Bool.false_eq_true, if_false]
    refine wpAny_bind (wpAny_mono one (fun r s' z => ?_) fun _ _ e => e)
    obtain ⟨v, rfl, hq⟩ := z
    exact wpAny_pure hq
end
end PySem.W
namespace K22
open PySem PySem.Spec PyProof.Rows L2
/-- what != of an own class with __eq__ alone asks of the text -/
structure NeC (K : PySem.W.Frag) (C : Addr) : Prop where
  ne : PySem.W.findIn K (.ref C) "__ne__" = some (some (.builtin "object.__ne__"))
  ob : PySem.W.mroIn K C (.type "object") = some true
section
variable {X : Cx} {k n : Nat} {f : Addr} {sp : Sp}
theorem op_neO (F : FnX X k f sp) (hr : Room n X.A) (hk : k + 1 ≤ n := by decide) : OpR X (compareOp .NotEq) (fun x y H Q => ∃ a C dx fs b D dy gs, x = .ref a ∧ y = .ref b ∧ H a = some (.ins C dx fs) ∧ H b = some (.ins D dy gs) ∧ Meth X.K C "__eq__" f ∧ NeC X.K C ∧ PySem.W.notFirst X.K C (.ref D) = true ∧
    sp [.ref a, .ref b] H (fun z H' => ∃ r, z = .bl r ∧ Q (.bl (!r)) H') E0) := by
  intro pins s σ H x y v u Q I rx ry hq
  obtain ⟨a, C, dx, fs, b, D, dy, gs, rfl, rfl, ha, hb, M, N, hn, q⟩ := hq
  cases rx
  cases ry
  obtain ⟨od, J⟩ := inst_of I ha
  obtain ⟨od', J'⟩ := inst_of I hb
  obtain ⟨m, hF⟩ := I.fr
  have r1 : Room k X.A.in1 := (hr.mono hk).in1
  refine PySem.W.k22_ne r1.units0 hr.units0 hF I.ok.mod.kin J J'.type hn N.ne N.ob M.at_ M.fn ?_
  refine wpAny_mono (run_fnA F r1 rfl I (vals2 a b) q) (fun v s' z => ?_) fun _ _ e => e
  obtain ⟨z, H', I', r, c, rfl, q⟩ := z
  cases r
  exact ⟨c, rfl, .bl (!c), H', I', rfl, q⟩
/-- str(o) -/
theorem call_strO (F : FnX X k f sp) (hr : Room n X.A) (hk : k + 2 ≤ n := by decide) : CallR X (.type "str") (fun vs H Q => ∃ a C dx fs, vs = [.ref a] ∧ H a = some (.ins C dx fs) ∧ Meth X.K C "__str__" f ∧ sp [.ref a] H (fun z H' => ∃ y : Str, z = .str y ∧ Q (.str y) H') E0) := by
  intro pins s σ H us vs Q I r hq
  obtain ⟨a, C, dx, fs, rfl, ha, M, q⟩ := hq
  cases r with
  | cons r rn =>
  cases r
  cases rn
  obtain ⟨od, J⟩ := inst_of I ha
  have r1 : Room k X.A.in1.in1 := (hr.mono hk).in1.in1
  refine PySem.W.k22_str r1.units0 I.kIn J M.at_ M.fn ?_
  refine wpAny_mono (run_fnA F r1 rfl I (vals1 a) q) (fun v s' z => ?_) fun _ _ e => e
  obtain ⟨z, H', I', r, y, rfl, q⟩ := z
  obtain ⟨t, rfl⟩ := r
  exact ⟨.str y, H', I', ⟨_, rfl⟩, q⟩
end
end K22

set_option Elab.async false
set_option linter.all false
set_option maxRecDepth 100000
set_option maxHeartbeats 2000000
/-! R2: calls of defs, methods, static methods, classes, by positional promises. -/
namespace K22
open PySem PySem.Spec PyProof.Rows L2

def tF (sp : Sp) (t : TA) : TE := fun σ H Q => t σ H fun vs H1 => sp vs H1 Q E0
section
variable {X : Cx} {k n : Nat} {f C : Addr} {sp : Sp} {x m : Str} {e o : Expr} {es : List Expr} {te ta : TE} {t : TA} {p pos apos : Pos}
/-- x(e, ..), x a def of the module -/
theorem pe_f (F : FnX X k f sp) (hr : Room n X.A) (hm : X.mg x = some (.ref f)) (hkp : PySem.W.keepIn X.K (.ref f) = true) (ha : PA X (e :: es) t) (hk : k ≤ n := by decide) (hg : Gl X x := by rfl) (hd : (x == ("__debug__" : Str)) = false := by decide)
    (he : starEach (e :: es) X.env = (false, eval e X.env) :: starEach es X.env := by rfl) (hpl : (backTo pos (starEach es X.env)).any (·.1) = false := by rfl) :
    PE X (.Call (.Name x p) (e :: es) [] pos) (tF sp t) := by
  refine ⟨fun pins s σ H Q I h => ?_⟩
  refine wpAny_Call_Name_kw (ld_glob I hg hm ?_ hd)
  refine PySem.W.callWith_K (h₀ := X.base) I.ok.mod.kin hkp (thn (ha.run pos pins s σ H _ I h) fun us s1 ⟨vs, H1, I1, r, q⟩ => ⟨I1.kIn, ?_⟩) he hpl
  exact run_fnA F (hr.mono hk) rfl I1 r q
/-- o.m(e, ..): whatever the class of o -/
def tM (X : Cx) (n : Nat) (m : Str) (to : TE) (t : TA) : TE := fun σ H Q => to σ H fun x H1 => ∃ a C dx fs f k sp, x = .ref a ∧ H1 a = some (.ins C dx fs) ∧ Cls X.K C ∧ Meth X.K C m f ∧ fs.lookup m = none ∧ FnX X k f sp ∧ k ≤ n ∧ t σ H1 fun vs H2 => sp (.ref a :: vs) H2 Q E0
theorem pe_m {pl : Sem Bool} (hr : Room n X.A) (he : PE X o te) (ha : PA X (e :: es) t)
    (hst : starEach (e :: es) X.env = (false, eval e X.env) :: starEach es X.env := by rfl) (hpl : (backTo pos (starEach es X.env)).any (·.1) = false := by rfl)
    (ht : eval (.Call (.Attribute o m apos) (e :: es) [] pos) X.env = (do
      let ov ← eval o X.env
      standAt apos.atName
      let (f, first) ← holding [ov] (getMethod ov m pl)
      callWith pos f first (backTo pos (starEach (e :: es) X.env)) (backToKw pos (keywordEach [] X.env))) := by rfl) :
    PE X (.Call (.Attribute o m apos) (e :: es) [] pos) (tM X n m te t) := by
  refine ⟨fun pins s σ H Q I h => ?_⟩
  refine PySem.W.methodCall_KW (pl := pl) (thn (he.run pins s σ H _ I h) fun u s1 ⟨x, H1, I1, rx, a, C, dx, fs, f, k, sp, ex, ea, c, hm, l, F, hk, q⟩ => ?_) ht
  subst ex
  obtain rfl : u = Value.ref a := rx
  refine getmeth_ok I1 ea c hm l ?_
  refine PySem.W.callWith_K (first := [.ref a]) (h₀ := X.base) I.ok.mod.kin hm.kp (thn (ha.run pos pins s1 σ H1 _ I1 q) fun us s2 ⟨vs, H2, I2, r, q2⟩ => ⟨I2.kIn, ?_⟩) hst hpl
  exact run_fnA (us := .ref a :: us) (vs := .ref a :: vs) F (hr.mono hk) rfl I2 (.cons rfl r) q2
theorem pe_m0 {pl : Sem Bool} (hr : Room n X.A) (he : PE X o te)
    (ht : eval (.Call (.Attribute o m apos) [] [] pos) X.env = (do
      let ov ← eval o X.env
      standAt apos.atName
      let (f, first) ← holding [ov] (getMethod ov m pl)
      callWith pos f first (backTo pos (starEach [] X.env)) (backToKw pos (keywordEach [] X.env))) := by rfl) :
    PE X (.Call (.Attribute o m apos) [] [] pos) (tM X n m te tNil) := by
  refine ⟨fun pins s σ H Q I h => ?_⟩
  refine PySem.W.methodCall_KW (pl := pl) (thn (he.run pins s σ H _ I h) fun u s1 ⟨x, H1, I1, rx, a, C, dx, fs, f, k, sp, ex, ea, c, hm, l, F, hk, q⟩ => ?_) ht
  subst ex
  obtain rfl : u = Value.ref a := rx
  refine getmeth_ok I1 ea c hm l ?_
  exact PySem.W.callWith_K0 (first := [.ref a]) I1.kIn hm.kp (run_fnA (us := [.ref a]) (vs := [.ref a]) F (hr.mono hk) rfl I1 (vals1 a) q)

/-- C.m is a static method: its record at p, its def at g -/
structure SMet (K : PySem.W.Frag) (C : Addr) (m : Str) (p g : Addr) : Prop where
  rd : PySem.W.readsIn K C (.type "type") = true
  ga : PySem.W.specialIn K (.ref C) "__getattribute__" = some (some (.builtin "type.__getattribute__"))
  at_ : PySem.W.findCls K (.ref C) (.type "type") m = some (.get (.builtin "staticmethod.__get__") (.ref p) .none (.ref C))
  rc : ∃ rest, PySem.W.recIn K p "staticmethod" = some (.ref g :: rest)
  kp : PySem.W.keepIn K (.ref g) = true
def tS (C : Addr) (sp : Sp) (to : TE) (t : TA) : TE := fun σ H Q => to σ H fun x H1 => x = .ref C ∧ t σ H1 fun vs H2 => sp vs H2 Q E0
theorem pe_s {pl : Sem Bool} {q : Addr} (S : SMet X.K C m q f) (F : FnX X k f sp) (hr : Room n X.A) (he : PE X o te) (ha : PA X (e :: es) t) (hk : k ≤ n := by decide)
    (hst : starEach (e :: es) X.env = (false, eval e X.env) :: starEach es X.env := by rfl) (hpl : (backTo pos (starEach es X.env)).any (·.1) = false := by rfl)
    (ht : eval (.Call (.Attribute o m apos) (e :: es) [] pos) X.env = (do
      let ov ← eval o X.env
      standAt apos.atName
      let (f, first) ← holding [ov] (getMethod ov m pl)
      callWith pos f first (backTo pos (starEach (e :: es) X.env)) (backToKw pos (keywordEach [] X.env))) := by rfl) :
    PE X (.Call (.Attribute o m apos) (e :: es) [] pos) (tS C sp te t) := by
  refine ⟨fun pins s σ H Q I h => ?_⟩
  refine PySem.W.methodCall_KW (pl := pl) (thn (he.run pins s σ H _ I h) fun u s1 ⟨x, H1, I1, rx, ex, q2⟩ => ?_) ht
  subst ex
  obtain rfl : u = Value.ref C := rx
  obtain ⟨rest, hp⟩ := S.rc
  refine PySem.W.method_cls I1.kIn S.ga ?_
  refine PySem.W.cls_bind I1.kIn S.rd S.at_ (wpAny_call (PySem.W.sm_get (s := { s1 with toks := s1.toks + 1 }) I1.kIn hp (PySem.W.handed_on rfl ?_)))
  refine PySem.W.callWith_K (first := []) (h₀ := X.base) I.ok.mod.kin S.kp (thn (ha.run pos pins _ σ H1 _ (I1.tok _) q2) fun us s2 ⟨vs, H2, I2, r, q3⟩ => ⟨I2.kIn, ?_⟩) hst hpl
  exact run_fnA F (hr.mono hk) rfl I2 r q3

/-! ### instances made -/
def tMk (C : Addr) (sp : Sp) (t : TA) : TE := fun σ H Q => t σ H fun vs H1 => ∀ x dx, H1 x = none → H1 dx = none → dx ≠ x → sp (.ref x :: vs) (upd (upd H1 dx (.own x)) x (.ins C dx [])) (fun v H2 => v = .non ∧ Q (.ref x) H2) E0
theorem run_mk {pins : List (Addr × Obj)} {σ : L2.St} {H : Hp} {s : Shared} {Q : VK} {us : List Value} {vs : List V} (M : Mk X.K C f) (F : FnX X k f sp) (hr : Room (k + 1) X.A) (I : Inv X pins σ H s) (r : Vals vs us)
    (h : ∀ x dx, H x = none → H dx = none → dx ≠ x → sp (.ref x :: vs) (upd (upd H dx (.own x)) x (.ins C dx [])) (fun v H2 => v = .non ∧ Q (.ref x) H2) E0) :
    wpAny (model X.prog X.w) X.A (call (.ref C) us) (EP X pins σ Q) X.xe s := StX.run_makeR M F hr (fun _ _ _ _ _ _ _ h => h.elim) I r h
/-- C(e, ..) -/
theorem pe_mk (M : Mk X.K C f) (F : FnX X k f sp) (hr : Room n X.A) (hm : X.mg x = some (.ref C)) (ha : PA X (e :: es) t) (hk : k + 1 ≤ n := by decide) (hg : Gl X x := by rfl) (hdb : (x == ("__debug__" : Str)) = false := by decide)
    (he : starEach (e :: es) X.env = (false, eval e X.env) :: starEach es X.env := by rfl) (hpl : (backTo pos (starEach es X.env)).any (·.1) = false := by rfl) : PE X (.Call (.Name x p) (e :: es) [] pos) (tMk C sp t) := by
  refine ⟨fun pins s σ H Q I h => ?_⟩
  refine wpAny_Call_Name_kw (ld_glob I hg hm ?_ hdb)
  refine PySem.W.callWith_K (h₀ := X.base) I.ok.mod.kin M.kp (thn (ha.run pos pins s σ H _ I h) fun us s1 ⟨vs, H1, I1, r, q⟩ => ⟨I1.kIn, ?_⟩) he hpl
  exact run_mk M F (hr.mono hk) I1 r q
/-- C(e, .., *y) -/
theorem pe_mkS (M : Mk X.K C f) (F : FnX X k f sp) (hr : Room n X.A) (hm : X.mg x = some (.ref C)) (ha : PA X (e :: es) t) (hk : k + 1 ≤ n := by decide) (hg : Gl X x := by rfl) (hdb : (x == ("__debug__" : Str)) = false := by decide)
    (he : starEach (e :: es) X.env = (false, eval e X.env) :: starEach es X.env := by rfl) (hst : (backTo pos (starEach es X.env)).any (·.1) = true := by rfl) : PE X (.Call (.Name x p) (e :: es) [] pos) (tMk C sp t) := by
  refine ⟨fun pins s σ H Q I h => ?_⟩
  refine wpAny_Call_Name_kw (ld_glob I hg hm ?_ hdb)
  refine PySem.W.callWith_S2 (h₀ := X.base) I.ok.mod.kin M.kp (thn (ha.run pos pins s σ H _ I h) fun us s1 ⟨vs, H1, I1, r, q⟩ => ⟨I1.kIn, ?_⟩) he hst
  exact run_mk M F (hr.mono hk) I1 r q
/-- C() -/
theorem pe_mk0 (M : Mk X.K C f) (F : FnX X k f sp) (hr : Room n X.A) (hm : X.mg x = some (.ref C)) (hk : k + 1 ≤ n := by decide) (hg : Gl X x := by rfl) (hdb : (x == ("__debug__" : Str)) = false := by decide) : PE X (.Call (.Name x p) [] [] pos) (tMk C sp tNil) := by
  refine ⟨fun pins s σ H Q I h => ?_⟩
  refine wpAny_Call_Name_kw (ld_glob I hg hm ?_ hdb)
  exact PySem.W.callWith_K0 I.kIn M.kp (run_mk (us := []) M F (hr.mono hk) I .nil h)

/-! ### o[i] by the own __getitem__ -/
def rGetO (K : PySem.W.Frag) (f : Addr) (sp : Sp) : R2 := fun x y H Q => ∃ a C dx fs, x = .ref a ∧ H a = some (.ins C dx fs) ∧ Meth K C "__getitem__" f ∧ PySem.W.fnIn K f = true ∧ sp [.ref a, y] H Q E0
theorem pe_ixO {a b : Expr} {ta tb : TE} (F : FnX X k f sp) (hr : Room n X.A) (ha : PE X a ta) (hb : PE X b tb) (hk : k + 1 ≤ n := by decide)
    (hsl : ∀ x i : Value, subscripted b true x i = runValue (.builtin "lifetime.subscript" ⟨[x, i], []⟩) := by intro _ _; with_unfolding_all rfl) : PE X (.Subscript a b pos) (tOp (rGetO X.K f sp) ta tb) := by
  refine ⟨fun pins s σ H Q I h => ?_⟩
  refine Subscript_ (binT ha hb I h fun v u s2 x y H2 I2 rx ry q => ?_)
  obtain ⟨c, C, dx, fs, rfl, hc, M, hfn, q⟩ := q
  cases rx
  obtain ⟨od, J⟩ := inst_of I2 hc
  obtain ⟨m, hF⟩ := I2.fr
  exact PySem.W.sub_K hF I2.ok.mod.kin J M.at_ hfn M.fn (run_fnA F (hr.mono hk).in1 rfl I2 (vals2x c ry) q) (hsl _ _)
end

/-! ### an own iterable whose __iter__ hands back a tuple's iterator -/
/-- at it an iterator over the tuple at l, from its start on -/
def ItU (l it : Addr) : HO := .ext fun h => h.IsTupleIter it l 0
theorem itU_ok {P : Program} {w : World} {H : Hp} {h : Heap} {l it : Addr} (e : h.IsTupleIter it l 0) : ObjOk P w H h it (ItU l it) :=
  let ⟨o, ho, r⟩ := id e
  ⟨e, ⟨o, ho⟩, fun h1 h2 q k => let ⟨o, ho, r⟩ := q; ⟨o, k _ ho, r⟩⟩
/-- a def's call by its body, from the state it begins with -/
theorem run_of {CX : CXT} {P : Program} {w : World} {K : PySem.W.Frag} {mg : Str → Option Value} {base : Heap} {k : Nat} {f : Addr} {name qual : Str} {params : Arguments} {body : List Stmt} {scope : Scope} {dV kV doc pm cdv ct oc : Value} {an od : Option Addr}
    {osl : Array (Option Value)} {N ps : List Str} {A : Around} {outer : List Env} {s : Shared} {H : Hp} {args : Args} {us : List Value} {vs : List V} {Q : VK} {E : XK}
    (lk : K.lookup f = some ⟨oc, od, .func (PySem.W.fnOf name qual params body scope dV kV doc pm an cdv ct), osl⟩) (hcd : PySem.W.codeIn K cdv qual = true) (S : FnScope N ps scope) (hl : vs.length = ps.length) (hr : Room (k + 1) A)
    (e0 : Env0 P w K mg base A outer s H) (hb : BindsTo s (PySem.W.fnOf name qual params body scope dV kV doc pm an cdv ct) args (ps.zip us)) (r : Vals vs us)
    (hbody : Room k (A.deeper (envOfC qual scope s.heap.objs.size f cdv)) → ∃ t, PSs (cxOf CX P w K mg base N qual scope f cdv A outer s H E) body t ∧ t { nx := fun _ H' => Q .non H', rt := Q } (start N vs) H) :
    codeAny (model P w) A (.call (.ref f) args) (CR CX outer P w H s Q E) s := by
  have KX : K.In s.heap := e0.mod.kin.keeps fun b o e => (e0.bs b o e).1
  have lim : s.heap.NoLimit := e0.mod.nolimit.keeps fun b o e => (e0.bs b o e).1
  have hkind : ∀ y ∈ ps.zip us, scope.names.lookup y.1 = some .local ∨ (scope.names.lookup y.1 = some .cell ∧ ((cellsFrom (s.heap.objs.size + 1) scope.names []).lookup y.1).isSome = true) := fun ⟨n, v⟩ hy => by
    rcases S.par n (List.of_mem_zip hy).1 with q | q
    · exact .inl q
    · exact .inr ⟨q, PySem.W.cellsFrom_some _ _ _ (.inl q)⟩
  refine codeAny_call_function hr.depth (KX _ _ lk) rfl S.co S.gen rfl (PySem.W.codeRec_of KX hcd) (hb _ _ _ _ ?_)
  refine wpAny_newFunctionEnv_cells S.kind hkind fun env he s1 x => ?_
  subst he
  refine ⟨lim.keeps x.toInCall.keep, codeAny_func ?_⟩
  obtain ⟨t, ht, hq⟩ := hbody (hr.deeper _)
  have I : Inv (cxOf CX P w K mg base N qual scope f cdv A outer s H E) [] (start N vs) H s1 := inv_start S hr.hd e0 hl r x
  refine wpAny_mono (ht.run [] s1 (start N vs) H _ I hq) (fun fl s' hs => ?_) fun e s' hs => hs
  have fin : ∀ {σ' : L2.St} {H' : Hp} {v : V} {u : Value}, Inv (cxOf CX P w K mg base N qual scope f cdv A outer s H E) [] σ' H' s' → RelV v u → Q v H' → CE outer P w H s Q u s' :=
    fun {σ' H' v u} J rv q => ⟨v, H', J.os, J.bare, J.base, J.hok, rv, q⟩
  cases fl with
  | ret u =>
    obtain ⟨v, σ', H', J, rv, q⟩ := hs
    exact fin J rv q
  | next =>
    obtain ⟨σ', H', J, q⟩ := hs
    exact fin (v := V.non) (u := Value.none) J rfl q
  | brk =>
    obtain ⟨_, _, _, q⟩ := hs
    exact False.elim q
  | cont =>
    obtain ⟨_, _, _, q⟩ := hs
    exact False.elim q
/-- iter(t), t a tuple; n: the size of the heap at the def's entry -/
theorem call_iterU {X : Cx} : CallR X (.builtin "iter") (fun xs H Q => ∃ (l : Addr) (zs : List V), xs = [.ref l] ∧ SqT X.K H l zs ∧ ∀ it, H it = Option.none → X.s_0.heap.objs.size ≤ it → Q (.ref it) (upd H it (ItU l it))) := by
  intro pins s σ H xs us Q I r h
  obtain ⟨l, zs, rfl, hq, q⟩ := h
  cases r with
  | cons r rn =>
  cases r
  cases rn
  obtain ⟨its, rv, p, hz⟩ := I.tuple hq
  refine Calls.call_function_entry (by decide +kernel) (by decide +kernel) PySem.W.kdk_entry_iter (PySem.W.kdk_args_iter _) ?_
  unfold Builtin.«iter»
  refine wpAny_bind (m := someArgs "iter" 1 2 _) (wpAny_of_eq (a := [Value.ref l]) (by first | rfl | kernel_rfl!) ?_)
  show wpAny _ _ (pyIter (.ref l) >>= _) _ _ _
  refine wpAny_bind (wpAny_pyIter_tuple (show s.heap.IsTuple l its.toArray from p) ?_)
  refine wpAny_pure ⟨_, rfl, ?_⟩
  exact ⟨.ref s.heap.objs.size, _, I.laid (t' := s.toks) (fun b u e => Heap.get?_push_of_some _ e) (Nat.le_refl _) (itU_ok ⟨_, Heap.get?_push_size _ rfl, rfl, rfl⟩), rfl, q _ (I.hok.fresh (Nat.le_refl _)) I.sz⟩
/-- what __iter__ of a class does: at a, hands back a new iterator over the tuple at l -/
def FnIt (P : Program) (w : World) (K : PySem.W.Frag) (mg : Str → Option Value) (base : Heap) (k : Nat) (f : Addr) (pre : Addr → Addr → Hp → Prop) : Prop :=
  ∀ (A : Around) (outer : List Env) (s : Shared) (H : Hp) (a l : Addr) (Q : VK), Room k A → Env0 P w K mg base A outer s H → pre a l H → (∀ it, H it = Option.none → s.heap.objs.size ≤ it → Q (.ref it) (upd H it (ItU l it))) →
    codeAny (model P w) A (.call (.ref f) ⟨[.ref a], []⟩) (CR CX0 outer P w H s Q E0) s
def iOwn (K : PySem.W.Frag) (f : Addr) (pre : Addr → Addr → Hp → Prop) (te : TE) : TI := fun σ H R => te σ H fun x H1 => ∃ a C dx fs l, x = .ref a ∧ H1 a = some (.ins C dx fs) ∧ Meth K C "__iter__" f ∧ pre a l H1 ∧ R (Itt K l) H1
theorem pi_own {X : Cx} {k n : Nat} {f : Addr} {pre : Addr → Addr → Hp → Prop} {tg e : Expr} {te : TE} (F : FnIt X.prog X.w X.K X.mg X.base k f pre) (hr : Room n X.A) (he : PE X e te) (hk : k ≤ n := by decide) : PI X tg e (iOwn X.K f pre te) := by
  refine ⟨fun pins s σ H R I h => ?_⟩
  refine thn (he.run pins s σ H _ I h) fun v s1 ⟨x, H1, I1, r1, a, C, dx, fs, l, ex, ea, M, hp, q⟩ => ?_
  subst ex
  cases r1
  obtain ⟨od, J⟩ := inst_of I1 ea
  obtain ⟨m, hF⟩ := I1.fr
  refine PySem.W.owit_iter hF I1.ok.mod.kin J M.at_ M.fn ?_
  refine wpAny_call (codeAny_mono (F X.A X.stack s1 H1 a l (fun v H' => ∃ it, v = .ref it ∧ H1 it = Option.none ∧ s1.heap.objs.size ≤ it ∧ H' = upd H1 it (ItU l it)) (hr.mono hk) I1.env0 hp fun it h1 h2 => ⟨it, rfl, h1, h2, rfl⟩) fun r s' hq => ?_)
  cases r with
  | error e => exact hq.elim
  | ok fl =>
    cases fl with
    | next => exact False.elim hq
    | brk => exact False.elim hq
    | cont => exact False.elim hq
    | ret u =>
      obtain ⟨v, H', I2, rv, it, ev, hit, hsz, eH⟩ := I1.after hq
      subst ev eH
      cases rv
      have st : s'.heap.IsTupleIter it l 0 := (I2.hok it _ upd_same).1
      unfold PySem.W.OwitIt
      refine wpAny_specialOf (name := "__next__") st.typeIs PySem.F.slot_tuple_iterator_next.lookup ?_
      have I3 := ItX.inv_drop I2 (a := it) (φ := fun h => h.IsTupleIter it l 0) upd_same
      have fp := ItX.inv_fp I2 (a := it) (u := ItU l it) upd_same (Nat.le_trans I1.sz hsz)
      rw [ItX.dropH_upd hit] at I3 fp
      refine ⟨it, [it], _, _, H1, rfl, I3, turn_tuple l it, st, fun b hb => ?_, q⟩
      have e : b = it := by simpa using hb
      subst e
      exact fp
end K22

set_option Elab.async false
set_option linter.all false
set_option maxRecDepth 100000
set_option maxHeartbeats 4000000
/-! R3: a method whose body is one super().__init__(names). -/
namespace K22
open PySem PySem.Spec PyProof.Rows L2 PySem.W

/-- plain names as arguments -/
theorem star_name {x : Str} {p : Pos} {es : List Expr} {env : Env} : starEach (Expr.Name x p :: es) env = (false, eval (Expr.Name x p) env) :: starEach es env := by rfl
theorem backTo_cons {pos : Pos} {t : Sem Value} {l : List (Bool × Sem Value)} : backTo pos ((false, t) :: l) = (false, t) :: backTo pos l := by rfl
abbrev nameE (x : Str × Pos) : Expr := Expr.Name x.1 x.2
theorem spl_names {M : Model} {A : Around} {E : Value → Shared → Prop} {s : Shared} {env : Env} {m : Str → Option Value} {pos : Pos} (hk : env.scope.kind = .function) (hn : s.heap.Ns env.locals m)
    (xs : List (Str × Pos)) : ∀ (us : List Value) (Q : List Value → Shared → Prop), (∀ x ∈ xs, env.kindOf x.1 = some .local ∧ (x.1 == ("__debug__" : Str)) = false) → xs.map (fun x => m x.1) = us.map some → Q us s →
      wpAny M A (spliced (backTo pos (starEach (xs.map nameE) env))) Q E s := by
  induction xs with
  | nil =>
    intro us Q _ e h
    cases us with
    | nil => exact Calls.spliced_nil h
    | cons _ _ => cases e
  | cons x xs ih =>
    intro us Q hx e h
    cases us with
    | nil => cases e
    | cons u us =>
      rw [List.map_cons, List.map_cons] at e
      injection e with e1 e2
      obtain ⟨h1, h2⟩ := hx x (List.mem_cons_self ..)
      rw [List.map_cons, star_name, backTo_cons]
      refine Calls.spliced_cons (wpAny_Name (wpAny_loadName_local hk h1 hn e1 ?_) h2)
      exact ih us (fun vs s' => Q (u :: vs) s') (fun y hy => hx y (List.mem_cons_of_mem _ hy)) e2 h
/-- the statement super().__init__(names) -/
abbrev supE (p0 p1 p2 p3 : Pos) (xs : List (Str × Pos)) : Expr := .Call (.Attribute (.Call (.Name "super" p0) [] [] p1) "__init__" p2) (xs.map nameE) [] p3
/-- what the text says of such a method -/
structure SupT (P : Program) (name qual : Str) (params : Arguments) (body : List Stmt) (scope : Scope) (ps : List Str) (x0 : Str) (xs : List (Str × Pos)) (p0 p1 p2 p3 p4 : Pos) : Prop where
  bd : body = [.Expr (supE p0 p1 p2 p3 xs) p4]
  ar : ∃ a : Arg, (params.posonlyargs ++ params.args).head? = some a ∧ a.arg = x0
  sup : scope.names.lookup ("super" : Str) = some .globalImplicit
  cls : scope.names.lookup ("__class__" : Str) = some .free
  kind : scope.kind = .function
  co : scope.isCoroutine = false
  gen : scope.isGenerator = false
  nocell : ∀ x ∈ scope.names, x.2 ≠ .cell
  loc : ∀ x ∈ ps, scope.names.lookup x = some .local
  names : ∀ x ∈ xs, scope.names.lookup x.1 = some .local ∧ (x.1 == ("__debug__" : Str)) = false
  hd : ps.head? = some x0
  nd : ps.Nodup
  top : (P.main.scope.names.lookup ("super" : Str)).isSome = false
  bind : ∀ (kV doc pm : Value) (an : Option Addr) (cdv ct : Value) (cc : Addr) (us : List Value), us.length = ps.length → bindArgs (ksFn name qual params body scope .none kV doc pm an cdv ct cc) ⟨us, []⟩ = pure (ps.zip us)
  sw : ∀ (L f : Addr) (cdv : Value) (cc : Addr), swapsWith (supE p0 p1 p2 p3 xs) none p4.line (ksEnv qual scope L f cdv cc) = pure false
  ev : ∀ (L f : Addr) (cdv : Value) (cc : Addr), ∃ pl : Sem Bool, eval (supE p0 p1 p2 p3 xs) (ksEnv qual scope L f cdv cc) = (do
      let ov ← attributeBase (.Call (.Name "super" p0) [] [] p1) "__init__" (ksEnv qual scope L f cdv cc) (eval (.Call (.Name "super" p0) [] [] p1) (ksEnv qual scope L f cdv cc))
      standAt p2.atName
      let (f1, first) ← holding [ov] (getMethod ov "__init__" pl)
      callWith p3 f1 first (backTo p3 (starEach (xs.map nameE) (ksEnv qual scope L f cdv cc))) [])
/-- what K says of it, at f -/
structure SupK (P : Program) (K : Frag) (name qual : Str) (params : Arguments) (body : List Stmt) (scope : Scope) (f cc D : Addr) : Prop where
  fn : ∃ (kV doc pm ct oc : Value) (an od : Option Addr) (osl : Array (Option Value)) (cda : Addr), K.lookup f = some ⟨oc, od, .func (ksFn name qual params body scope .none kV doc pm an (.ref cda) ct cc), osl⟩ ∧ codeIn K (.ref cda) qual = true ∧
    ∃ (ccl : Value) (cdd : Option Addr) (ccs : Array (Option Value)) (vs : Array Value) (tf : Tok), K.lookup cda = some ⟨ccl, cdd, .fields vs, ccs⟩ ∧ vs[2]? = some (.str P.main.file tf)
  cell : ∃ (cl : Value) (cld : Option Addr) (csl : Array (Option Value)), K.lookup cc = some ⟨cl, cld, .cell (some (.ref D)), csl⟩
  cls : ∃ cdD, clsIn K D = some cdD
  sup : nsIn K mainGlobals "super" = some none
  tp : nsIn K cStatics "thirdparty.any" = some none
/-- .. and of the object's class -/
structure SupC (K : Frag) (C D f2 : Addr) : Prop where
  sub : mroIn K C (.ref D) = some true
  meth : ks_superIn K C D "__init__" = some (some (.ref f2))
  fn : isFn K (.ref f2) = true
  fi : fnIn K f2 = true

section
theorem lookup_rev {ps : List Str} {us : List Value} {x : Str} {u : Value} (nd : ps.Nodup) {i : Nat} (hp : ps[i]? = some x) (hu : us[i]? = some u) : (ps.zip us).reverse.lookup x = some u := by
  have mem : (x, u) ∈ (ps.zip us).reverse := by
    rw [List.mem_reverse]
    exact List.mem_of_getElem? (i := i) (by rw [List.getElem?_zip_eq_some]; exact ⟨hp, hu⟩)
  have all : ∀ v, (x, v) ∈ (ps.zip us).reverse → v = u := fun v hv => by
    rw [List.mem_reverse] at hv
    obtain ⟨j, hj⟩ := List.mem_iff_getElem?.mp hv
    rw [List.getElem?_zip_eq_some] at hj
    have e := nodup_ix nd hp hj.1
    subst e
    rw [hu] at hj
    exact (Option.some.inj hj.2).symm
  cases e : (ps.zip us).reverse.lookup x with
  | none =>
    have := List.lookup_eq_none_iff.mp e (x, u) mem
    simp at this
  | some v => rw [all v (PySem.mem_of_lookup e)]
end
section
variable {P : Program} {w : World} {K : Frag} {mg : Str → Option Value} {base : Heap} {k : Nat} {name qual x0 : Str} {params : Arguments} {body : List Stmt} {scope : Scope} {ps : List Str} {xs : List (Str × Pos)} {p0 p1 p2 p3 p4 : Pos} {f cc D f2 : Addr} {sp2 : Sp}
theorem fn_super (T : SupT P name qual params body scope ps x0 xs p0 p1 p2 p3 p4) (S : SupK P K name qual params body scope f cc D) (F2 : Fn P w K mg base k f2 sp2) (hsup : mg "super" = none) (hne : xs ≠ []) :
    Fn P w K mg base (k + 2) f (fun vs H Q _ => vs.length = ps.length ∧ ∃ (x C dx : Addr) (fs : List (Str × V)) (ws : List V), vs[0]? = some (.ref x) ∧ H x = some (.ins C dx fs) ∧ SupC K C D f2 ∧
      ws.length = xs.length ∧ (∀ (i : Nat) (y : Str × Pos), xs[i]? = some y → ∃ j : Nat, ps[j]? = some y.1 ∧ vs[j]? = ws[i]?) ∧ sp2 (.ref x :: ws) H (fun _ H' => Q .non H') E0) := by
  intro A outer s H us vs Q E hr e0 r hsp
  obtain ⟨hl, x, C, dx, fs, ws, hx, hC, SC, hwl, hws, hsp⟩ := hsp
  obtain ⟨kV, doc, pm, ct, oc, an, od, osl, cda, lk, hcd, ccl, cdd, ccs, cvs, tf, lc, hfile⟩ := S.fn
  obtain ⟨cl, cld, csl, lcell⟩ := S.cell
  obtain ⟨cdD, hD⟩ := S.cls
  have KX : K.In s.heap := e0.mod.kin.keeps fun b o e => (e0.bs b o e).1
  have lim : s.heap.NoLimit := e0.mod.nolimit.keeps fun b o e => (e0.bs b o e).1
  have hul : us.length = ps.length := by rw [← r.length]; exact hl
  refine ks_codeAny_call_defAt (fd := ksFn name qual params body scope .none kV doc pm an (.ref cda) ct cc) (body := body) (binds := ps.zip us) hr.depth (KX _ _ lk) rfl lim (codeRec_of KX hcd) rfl (BindsTo.of_eq (T.bind _ _ _ _ _ _ _ us hul)) T.nocell
    (fun y hy => T.loc y.1 (List.of_mem_zip hy).1) (fun h₁ hns kp => ?_) T.co T.gen T.kind
  generalize hL : s.heap.objs.size = L at hns ⊢
  obtain ⟨ar, har, har0⟩ := T.ar
  obtain ⟨pl, hev⟩ := T.ev L f (.ref cda) cc
  -- the object's own address
  have hp0 : ps[0]? = some x0 := by rw [← List.head?_eq_getElem?]; exact T.hd
  obtain ⟨u0, hu0, ru0⟩ := r.get hx
  cases ru0
  have hm0 : (ps.zip us).reverse.lookup x0 = some (.ref x) := lookup_rev T.nd hp0 hu0
  have X1 : K.In h₁ := KX.keeps kp
  have hok1 : HOk P w H h₁ := e0.hok.kept kp
  obtain ⟨mA, O, _⟩ := ins_get hok1 hC
  obtain ⟨odx, J, _⟩ := O.look
  obtain ⟨oD, hD1, hD2⟩ : ∃ oD, h₁.get? D = some oD ∧ oD.data = .cls cdD := by
    unfold clsIn at hD
    split at hD
    · rename_i c d cd' sl ho
      cases hD
      exact ⟨_, X1 _ _ ho, rfl⟩
    · cases hD
  obtain ⟨mb, hb1, hb2⟩ := e0.mod.blt
  have kb : ∀ b o, base.get? b = some o → h₁.get? b = some o := fun b o e => kp b o (e0.bs b o e).1
  show _root_.PySem.wpAt (model P w) (A.deeper (ksEnv qual scope L f (.ref cda) cc)) (.func body (ksEnv qual scope L f (.ref cda) cc)) (execs body (ksEnv qual scope L f (.ref cda) cc)) _ _ _
  have hbd := T.bd
  generalize hcode : Code.func body (ksEnv qual scope L f (.ref cda) cc) = code
  rw [hbd]
  refine ks_wpAt_execs_cons (ks_wpAt_Expr_any ?_ (by simp [interactive, T.kind]) (T.sw L f (.ref cda) cc))
  refine ks_wpAt_MethodCall (pl := pl) ?_ hev
  rw [← hcode]
  refine ks_wpAt_super_base (env := ksEnv qual scope L f (.ref cda) cc) T.sup T.cls (by decide) rfl (X1 _ _ lk) rfl har rfl (X1 _ _ lc) rfl hfile (by simp) T.top ?_
  refine ks_loadName_global T.kind T.sup (Calls.loadGlobal_builtin (env := ksEnv qual scope L f (.ref cda) cc) (e0.mod.glob.keeps kb) hsup (hb1.keeps kb) ((hb2 _ (by decide +kernel)).trans (by decide +kernel)) ⟨rfl, ?_⟩)
  refine wpAny_loadName_free T.kind T.cls rfl ⟨_, X1 _ _ lcell, rfl⟩ ?_
  refine wpAny_loadName_local T.kind (by rw [har0]; exact T.loc x0 (List.mem_of_getElem? hp0)) hns (by rw [har0]; exact hm0) ?_
  refine ks_wpAny_isType_cls hD1 hD2 ⟨rfl, ?_⟩
  refine ks_wpAny_call_super hD1 hD2 J.at_ J.cls (fun c e => ?_) (looks_mroIn X1 SC.sub) (fun h2 e2 k2 => ?_)
  · have := J.no
    unfold notCls at this
    rw [e] at this
    exact Bool.noConfusion this
  have X2 : K.In h2 := X1.keeps k2
  have J2 := J.at_
  obtain ⟨cdC, hcC⟩ : ∃ cd, clsIn K C = some cd := by
    have q := SC.sub
    unfold mroIn at q
    cases hc : clsIn K C with
    | none => rw [hc] at q; cases q
    | some cd => exact ⟨cd, rfl⟩
  have hm := SC.meth
  unfold ks_superIn at hm
  rw [hcC] at hm
  obtain ⟨of, hof, hofc⟩ : ∃ of, h2.get? f2 = some of ∧ of.cls = .type "function" := by
    have ht : typeIn K (.ref f2) = some (.type "function") := beq_iff_eq.mp SC.fn
    have ht' : (K.lookup f2).map (·.cls) = some (.type "function") := ht
    cases z : K.lookup f2 with
    | none => rw [z] at ht'; cases ht'
    | some of => rw [z] at ht'; exact ⟨of, X2 _ _ z, Option.some.inj ht'⟩
  have ne : x ≠ C := ks_ne X1 J hcC
  refine ks_wpAny_getMethod_super e2 (looks_opaque X2 S.tp) (l₀ := cdC.mro) ?_ rfl X2 hm hof hofc ne (by decide +kernel) ?_
  · exact fun A Q E s k q => wpAny_bind ((looks_clsIn X2 hcC) A _ E s k (wpAny_pure q))
  generalize hq3 : h2.push { cls := .type "method", data := .fields #[.ref f2, .ref x] } = h3
  have k3 : ∀ b o, h2.get? b = some o → h3.get? b = some o := fun b o e => by rw [← hq3]; exact Heap.get?_push_of_some _ e
  have e3 : h3.get? h2.objs.size = some (methodObj (.ref f2) (.ref x)) := by rw [← hq3]; exact Heap.get?_push_size _ rfl
  have X3 : K.In h3 := X2.keeps k3
  have kp3 : ∀ b o, s.heap.get? b = some o → h3.get? b = some o := fun b o e => k3 _ _ (k2 _ _ (kp _ _ e))
  have hns3 : h3.Ns L (fun y => (ps.zip us).reverse.lookup y) := hns.keeps fun b o e => k3 _ _ (k2 _ _ e)
  have hok3 : HOk P w H h3 := e0.hok.kept kp3
  -- the arguments' values
  have hget : ∀ (i : Nat) (y : Str × Pos), xs[i]? = some y → ∃ (u : Value) (v : V), (ps.zip us).reverse.lookup y.1 = some u ∧ ws[i]? = some v ∧ RelV v u := fun i y hy => by
    obtain ⟨j, h1, h2⟩ := hws i y hy
    have hi : i < ws.length := by rw [hwl]; exact (List.getElem?_eq_some_iff.mp hy).1
    have h3' : ws[i]? = some ws[i] := List.getElem?_eq_getElem hi
    rw [h3'] at h2
    obtain ⟨u, hu, ru⟩ := r.get h2
    exact ⟨u, ws[i], lookup_rev T.nd h1 hu, h3', ru⟩
  obtain ⟨ws', hw1, hw2⟩ : ∃ ws' : List Value, xs.map (fun y => (ps.zip us).reverse.lookup y.1) = ws'.map some ∧ Vals ws ws' := by
    have key : ∀ (xs : List (Str × Pos)) (ws : List V), ws.length = xs.length → (∀ (i : Nat) (y : Str × Pos), xs[i]? = some y → ∃ (u : Value) (v : V), (ps.zip us).reverse.lookup y.1 = some u ∧ ws[i]? = some v ∧ RelV v u) →
        ∃ ws' : List Value, xs.map (fun y => (ps.zip us).reverse.lookup y.1) = ws'.map some ∧ Vals ws ws' := by
      intro xs
      induction xs with
      | nil =>
        intro ws h _
        cases ws with
        | nil => exact ⟨[], rfl, .nil⟩
        | cons _ _ => cases h
      | cons y ys ih =>
        intro ws h hg
        cases ws with
        | nil => cases h
        | cons v vs =>
          obtain ⟨u, v', h1, h2, h3⟩ := hg 0 y rfl
          cases h2
          obtain ⟨ws', q1, q2⟩ := ih vs (Nat.succ.inj h) fun i z hz => hg (i + 1) z hz
          exact ⟨u :: ws', by rw [List.map_cons, List.map_cons, h1, q1], .cons h3 q2⟩
    exact key xs ws hwl hget
  -- the call
  obtain ⟨y, ys, rfl⟩ : ∃ y ys, xs = y :: ys := by
    cases xs with
    | nil => exact absurd rfl hne
    | cons y ys => exact ⟨y, ys, rfl⟩
  have hpl : ∀ l : List (Str × Pos), (backTo p3 (starEach (l.map nameE) (ksEnv qual scope L f (.ref cda) cc))).any (·.1) = false := by
    intro l
    induction l with
    | nil => rfl
    | cons z l ih =>
      rw [List.map_cons, star_name, backTo_cons, List.any_cons, ih]
      rfl
  dsimp only
  rw [List.map_cons, star_name, backTo_cons]
  refine callWith_of (P := MethP K h2.objs.size f2 (.ref x)) ?_ (keeps_M SC.fi) ?_
  · rw [List.any_cons, hpl]
    rfl
  refine Calls.evalArgs_plain ?_
  have hs := spl_names (s := { s with heap := h3, toks := s.toks + (ps.zip us).length + 1 }) (M := model P w) (A := A.deeper (ksEnv qual scope L f (.ref cda) cc)) (env := ksEnv qual scope L f (.ref cda) cc) (pos := p3) (E := fun e s' => wpAny (model P w) (A.deeper (ksEnv qual scope L f (.ref cda) cc)) (leaving (ksEnv qual scope L f (.ref cda) cc) e) (fun _ s'' => CR CX0 outer P w H s Q E (.error e) s'') (fun e' s'' => CR CX0 outer P w H s Q E (.error e') s'') s')
    T.kind hns3 (y :: ys) ws'
  rw [show (y :: ys).map nameE = Expr.Name y.1 y.2 :: ys.map nameE from rfl, star_name, backTo_cons] at hs
  refine hs _ T.names hw1 ?_
  refine ⟨⟨e3, X3⟩, ?_⟩
  have hnb : base.get? L = none := by
    rw [← hL]
    exact Heap.get?_none_of_le e0.bsz
  have e1 : Env0 P w K mg base (A.deeper (ksEnv qual scope L f (.ref cda) cc)) (ksEnv qual scope L f (.ref cda) cc :: outer) { s with heap := h3, toks := s.toks + (ps.zip us).length + 1 } H := by
    refine ⟨?_, e0.mod, fun b o e => ⟨kp3 b o (e0.bs b o e).1, (e0.bs b o e).2⟩, ?_, ?_, ?_, hok3, e0.bare⟩
    · have q := e0.frames
      simp [Around.deeper, q]
    · exact Nat.le_of_lt (Nat.lt_of_le_of_lt e0.bsz (by rw [hL]; exact hns3.lt))
    · refine Heap.FunFrames.cons (by show (ksEnv qual scope L f (.ref cda) cc).scope.kind ≠ _; rw [show (ksEnv qual scope L f (.ref cda) cc).scope.kind = .function from T.kind]; decide) rfl hns3 hnb ?_
      exact Heap.FunFrames.of_keeps (fun b o e _ => ⟨o, kp3 b o e, rfl⟩) e0.funs
    · intro b hb
      have hb' : b ∈ L :: frs outer := hb
      rcases List.mem_cons.mp hb' with e | hb'
      · rw [e, ← hL]
        exact e0.hok.fresh (Nat.le_refl _)
      · exact e0.frf b hb'
  have r1 : Room k (A.deeper (ksEnv qual scope L f (.ref cda) cc)) := (hr.mono (by omega : k + 1 ≤ k + 2)).deeper _
  refine wpAny_call (method_call e3 (codeAny_mono (F2 _ _ _ H (.ref x :: ws') (.ref x :: ws) (fun _ H' => Q .non H') E0 r1 e1 (.cons rfl hw2) hsp) fun rr s' hq => ?_))
  cases rr with
  | error e => exact hq.elim
  | ok fl =>
    cases fl with
    | next => exact False.elim hq
    | brk => exact False.elim hq
    | cont => exact False.elim hq
    | ret u =>
      obtain ⟨v, H', os, bare, un, hok, rv, q⟩ := hq
      refine wpAt_of_wpAny (wpAny_execs_nil ?_)
      refine ⟨.non, H', os, bare, ⟨fun b o e n hb hx => ?_, fun b o e n hb hx => ?_, fun b o e n hx => ?_, fun b o e hx => ?_, un.tups, un.frzs, un.tbls⟩, hok, rfl, q⟩
      · refine un.keep b o (kp3 b o e) n (fun z => ?_) hx
        rcases List.mem_cons.mp (show b ∈ L :: frs outer from z) with z | z
        · exact Nat.ne_of_lt (Heap.lt_size e) (z.trans hL.symm)
        · exact hb z
      · exact un.slot b o (kp3 b o e) n (List.mem_cons_of_mem _ hb) hx
      · exact un.free b o (kp3 b o e) n hx
      · exact un.there b o (kp3 b o e) hx
end
end K22

set_option Elab.async false
set_option linter.all false
set_option maxRecDepth 100000
set_option maxHeartbeats 4000000
/-! R4: ** in calls and displays. -/
namespace PySem
open Sem (wp)
section
variable {prog : Program} {w : World} {K : Type} [DecidableEq K] {knd : KeyKind prog w K} {A : Around} {E : Value → Shared → Prop} {s : Shared}
theorem k22_dictPut {d : Addr} {kvs : List (K × Value)} {k : K} {key v : Value} {Q : Unit → Shared → Prop} (hkey : knd.is k key = true) (hm : s.heap.DictOf knd d kvs)
    (hQ : ∀ h', h'.DictOf knd d (stored kvs k v) → Heap.SameBut d s.heap h' → Q () { s with heap := h' })
    (hsz : kvs.length ≤ sizeLine := by size_fits) :
    wpAny (model prog w) A (dictPut d (knd.hash k) key v) Q E s := by
  obtain ⟨o, es, ep, ho, hc, hd, hk, hp, hn⟩ := hm
  have hes : es.size ≤ sizeLine := by have e1 := hp.length; have e2 : es.toList.length = es.size := by simp
                                      omega
  unfold dictPut
  refine wpAny_bind (wpAny_dictFind_of hkey ho hd hk ?_)
  have hidx : (es.findIdx? fun e => knd.is k e.key) = kvs.findIdx? fun kv => decide (kv.1 = k) := by
    rw [← hp.findIdx k]; obtain ⟨l⟩ := es; simp
  cases hi : es.findIdx? fun e => knd.is k e.key with
  | some i =>
    refine wpAny_updateDict ho hd (hQ _ ⟨_, _, ep, Heap.get?_update_self _ ho (Obj.isFreed_of_dict (Obj.data_mapDict hd _)),
      hc.mapDict _, Obj.data_mapDict hd _, hk.modify _ _, ?_, ?_⟩ (Heap.SameBut.update ..))
    · rw [stored, if_pos (any_of_findIdx_some (hidx ▸ hi))]
      have hl : (es.toList.findIdx? fun e => knd.is k e.key) = some i := by rw [← hi]; obtain ⟨l⟩ := es; simp
      have := hp.modify hn hl v
      obtain ⟨l⟩ := es
      simpa using this
    · rw [stored, if_pos (any_of_findIdx_some (hidx ▸ hi)), keys_map_store]; exact hn
  | none =>
    have hnot : k ∉ kvs.map (·.1) := not_mem_of_findIdx_none (hidx ▸ hi)
    have hany : ¬ (kvs.any fun kv => decide (kv.1 = k)) = true := by
      rw [List.any_eq_true]; rintro ⟨kv, hkv, he⟩
      exact hnot (List.mem_map.mpr ⟨kv, hkv, of_decide_eq_true he⟩)
    refine wpAny_updateDictKeys (hz := hes) ho hd (hQ _ ⟨_, _, ep + 1, Heap.get?_update_self _ ho (Obj.isFreed_of_dict (Obj.data_mapDictKeys hd _)),
      hc.mapDictKeys _, Obj.data_mapDictKeys hd _, hk.push hkey _, ?_, ?_⟩ (Heap.SameBut.update ..))
    · rw [stored, if_neg hany]
      have := hp.append hkey (knd.hash k) v
      obtain ⟨l⟩ := es
      simpa using this
    · rw [stored, if_neg hany, List.map_append, List.nodup_append]
      refine ⟨hn, by simp, ?_⟩
      intro a ha b hb
      simp only [List.map_cons, List.map_nil, List.mem_singleton] at hb
      subst hb
      exact fun e => hnot (e ▸ ha)
theorem k22_merge {u : Bool} {d o : Addr} {kvs more : List (K × Value)} {Q : Unit → Shared → Prop} (hdo : d ≠ o) (hoS : (o == sysModules) = false)
    (hd : s.heap.DictOf knd d kvs) (ho : s.heap.DictOf knd o more) (hu : u = true → ((kvs ++ more).map (·.1)).Nodup)
    (hQ : ∀ h', h'.DictOf knd d (merged kvs more) → h'.DictOf knd o more → Heap.SameBut d s.heap h' → Q () { s with heap := h' })
    (hsz : kvs.length + more.length ≤ sizeLine := by size_fits) :
    wpAny (model prog w) A (mergeMapping d (.ref o) u) Q E s := by
  obtain ⟨od, esd, epd, hod, hcd, hdd, hkd, hpd, hnd⟩ := id hd
  obtain ⟨oo, eso, epo, hoo, hco, hdo', hko, hpo, hno⟩ := id ho
  have hT : s.TypeIs (.ref o) "dict" := ho.typeIs
  have hlen : more.length = eso.size := by rw [← hpo.length]; simp
  unfold mergeMapping
  refine wpAny_bind (m := isInstance (.ref o) (.type "dict")) (wpAny_isInstance hT (b := true) (by rw [isSubtype_type]; kernel_rfl) ?_)
  rw [if_pos rfl]
  refine wpAny_bind (wpAny_specialOf (name := "__iter__") hT F.slot_dict_iter.lookup (wpAny_bind (wpAny_pure ?_)))
  rw [show ((some (Value.builtin "dict.__iter__") : Option Value) == some (.builtin "dict.__iter__")) = true from by decide +kernel]
  dsimp only
  rw [if_neg (by rw [hoS]; exact Bool.false_ne_true)]
  refine wpAny_bind (wpAny_dictEntries hod hdd ?_)
  have loop : wpAny (model prog w) A (do
      let l ← dictEntries o
      let epoch ← dictEpoch o
      forIn (List.range l.size) PUnit.unit fun i (_ : PUnit) => (do
          let l' ← dictEntries o
          match l'[i]? with
            | some e => do
              holding [e.key, e.val] (if u = true then (do
                  let q ← dictFind d e.key e.hash
                  if q.isSome = true then (do
                      rule "dict.merge.duplicate-key"
                      let x ← newExc (Value.type "KeyError") [e.key]
                      let _ ← (raiseNew x : Sem PUnit)
                      dictPut d e.hash e.key e.val)
                    else dictPut d e.hash e.key e.val) else dictPut d e.hash e.key e.val)
              let ep' ← dictEpoch o
              if (ep' != epoch) = true then do
                  (unsupported "dict.changed-during-merge" : Sem PUnit)
                  pure (ForInStep.yield PUnit.unit)
                else pure (ForInStep.yield PUnit.unit)
            | _ => do
              (unsupported "dict.changed-during-merge" : Sem PUnit)
              pure (ForInStep.yield PUnit.unit) : Sem (ForInStep PUnit))
      pure ()) Q E s := by
    refine wpAny_bind (wpAny_dictEntries hoo hdo' ?_)
    refine wpAny_bind (wpAny_dictEpoch hoo hdo' ?_)
    refine wpAny_bind ?_
    rw [List.range_eq_range']
    refine wpAny_forIn_list _
      (fun rest _ s' => ∃ h' i, s' = { s with heap := h' } ∧ rest = List.range' i (eso.size - i) ∧ i ≤ eso.size ∧ h'.DictOf knd d (merged kvs (more.take i)) ∧ h'.get? o = some oo ∧ Heap.SameBut d s.heap h')
      _ ?_ ?_ _ _ ⟨s.heap, 0, rfl, by simp, Nat.zero_le _, by simpa [merged] using hd, hoo, Heap.SameBut.refl _ _⟩
    · rintro x rest b s' ⟨h', i, rfl, hr, hi, hd', hoo', hs'⟩
      have hlt : i < eso.size := by
        rcases Nat.lt_or_ge i eso.size with h | h
        · exact h
        · rw [Nat.sub_eq_zero_of_le h] at hr; simp at hr
      obtain ⟨rfl, hrest⟩ : x = i ∧ rest = List.range' (i + 1) (eso.size - (i + 1)) := by
        have e : eso.size - i = (eso.size - (i + 1)) + 1 := by omega
        rw [e, List.range'_succ] at hr
        injection hr with h1 h2
        exact ⟨h1, h2⟩
      refine wpAny_bind (wpAny_dictEntries hoo' hdo' ?_)
      rw [Array.getElem?_eq_getElem hlt]
      obtain ⟨kv, hkv⟩ : ∃ kv, more[x]? = some kv := ⟨more[x]'(by rw [hlen]; exact hlt), List.getElem?_eq_getElem _⟩
      obtain ⟨k, v⟩ := kv
      obtain ⟨hkey, hval⟩ := hpo.get? (e := eso[x]) (by simp [hlt]) hkv
      obtain ⟨k', hkey', hhash⟩ := hko eso[x] (Array.getElem_mem hlt)
      obtain rfl : k' = k := knd.inj _ _ _ hkey' hkey
      dsimp only
      rw [hhash, hval]
      have hmx : (merged kvs (more.take x)).length ≤ sizeLine := by
        have e1 := merged_length_le kvs (more.take x)
        have e2 : (more.take x).length ≤ more.length := by rw [List.length_take]; omega
        omega
      have put : wpAny (model prog w) A (dictPut d (knd.hash k') eso[x].key v) (fun _ s' => ∃ h'', s' = { s with heap := h'' } ∧ h''.DictOf knd d (merged kvs (more.take (x + 1))) ∧ h''.get? o = some oo ∧ Heap.SameBut d s.heap h'') E { s with heap := h' } := by
        refine k22_dictPut hkey hd' (fun h'' hd'' hs'' => ⟨h'', rfl, ?_, (hs''.2 o (Ne.symm hdo)).trans hoo', hs'.trans hs''⟩) hmx
        rw [merged_take_succ kvs more x _ hkv]
        exact hd''
      have body : wpAny (model prog w) A (if u = true then (do
                  let q ← dictFind d eso[x].key (knd.hash k')
                  if q.isSome = true then (do
                      rule "dict.merge.duplicate-key"
                      let y ← newExc (Value.type "KeyError") [eso[x].key]
                      let _ ← (raiseNew y : Sem PUnit)
                      dictPut d (knd.hash k') eso[x].key v)
                    else dictPut d (knd.hash k') eso[x].key v) else dictPut d (knd.hash k') eso[x].key v) (fun _ s' => ∃ h'', s' = { s with heap := h'' } ∧ h''.DictOf knd d (merged kvs (more.take (x + 1))) ∧ h''.get? o = some oo ∧ Heap.SameBut d s.heap h'') E { s with heap := h' } := by
        by_cases hu1 : u = true
        · rw [if_pos hu1]
          have fresh : (eso.size = eso.size) ∧ k' ∉ (merged kvs (more.take x)).map (·.1) := ⟨rfl, by
            have hnd' := hu hu1
            have e : kvs ++ more = kvs ++ more.take x ++ more.drop x := by rw [List.append_assoc, List.take_append_drop]
            rw [e] at hnd'
            have e2 : more.drop x = (k', v) :: more.drop (x + 1) := by
              rw [List.drop_eq_getElem_cons (by rw [hlen]; exact hlt)]
              have := (List.getElem?_eq_some_iff.mp hkv).2
              rw [this]
            rw [merged_append_of_fresh kvs (more.take x) (by rw [List.map_append, List.nodup_append] at hnd'; exact hnd'.1)]
            intro hm
            rw [List.map_append, List.nodup_append] at hnd'
            exact hnd'.2.2 k' hm k' (by rw [e2]; simp) rfl⟩
          obtain ⟨o1, es1, ep1, ho1, hc1, hd1, hk1, hp1, hn1⟩ := id hd'
          refine wpAny_bind (wpAny_dictFind_of hkey ho1 hd1 hk1 ?_)
          have hnone : (es1.findIdx? fun e => knd.is k' e.key) = none := by
            have hidx : (es1.findIdx? fun e => knd.is k' e.key) = (merged kvs (more.take x)).findIdx? fun kv => decide (kv.1 = k') := by
              rw [← hp1.findIdx k']; obtain ⟨l⟩ := es1; simp
            rw [hidx, List.findIdx?_eq_none_iff]
            intro kv hkv'
            exact decide_eq_false fun e => fresh.2 (e ▸ List.mem_map_of_mem hkv')
          rw [hnone]
          exact put
        · rw [if_neg hu1]
          exact put
      refine wpAny_bind (wpAny_holding (wpAny_mono body (fun _ s' hs1 => ?_) fun _ _ e => e))
      obtain ⟨h'', rfl, hd'', hoo'', hs''⟩ := hs1
      refine wpAny_bind (wpAny_dictEpoch hoo'' hdo' ?_)
      rw [if_neg (by simp)]
      exact wpAny_pure ⟨h'', x + 1, rfl, hrest, hlt, hd'', hoo'', hs''⟩
    · rintro b s' ⟨h', i, rfl, hr, hi, hd', hoo', hs'⟩
      have hin : i = eso.size := by
        rcases Nat.lt_or_ge i eso.size with h | h
        · have e : eso.size - i = (eso.size - (i + 1)) + 1 := by omega
          rw [e, List.range'_succ] at hr; exact nomatch hr
        · exact Nat.le_antisymm hi h
      refine wpAny_pure (hQ h' ?_ ⟨oo, eso, epo, hoo', hco, hdo', hko, hpo, hno⟩ hs')
      rw [hin, ← hlen, List.take_length] at hd'; exact hd'
  split
  · refine wpAny_bind (wpAny_dictEntries hoo hdo' ?_)
    refine wpAny_bind ?_
    rw [← Array.forIn_toList]
    refine wpAny_forIn_list _ (fun rest _ s' => s' = s ∧ ∀ e ∈ rest, e ∈ eso.toList) _ ?_ ?_ _ _ ⟨rfl, fun _ h => h⟩
    · rintro x rest b s' ⟨rfl, hm⟩
      obtain ⟨k, hk, _⟩ := hko x (Array.mem_toList_iff.mp (hm x (List.mem_cons_self ..)))
      have hbv := knd.byValue k _ hk
      cases hx : x.key with
      | ref a => rw [hx] at hbv; cases hbv
      | _ => exact wpAny_pure ⟨rfl, fun e he => hm e (List.mem_cons_of_mem _ he)⟩
    · rintro b s' ⟨rfl, _⟩
      exact loop
  · exact loop
end
end PySem

set_option Elab.async false
set_option linter.all false
set_option maxRecDepth 100000
set_option maxHeartbeats 4000000
/-! R5: a def with **names, C(**d), {**d, k: v}. -/
namespace K22
open PySem PySem.Spec PyProof.Rows L2 PySem.W
theorem bind_kw {M : Model} {A : Around} {E : Value → Shared → Prop} {s : Shared} {Q : List (Str × Value) → Shared → Prop} {name qual pa pk : Str} {p1 p2 : Pos} {body : List Stmt} {scope : Scope} {kV doc pm cdv ct : Value} {an : Option Addr} {u : Value} {kw : List (Str × Value)}
   (hne : ∀ x ∈ kw, x.1 ≠ pa) (hz : kw.length ≤ sizeLine)
   (h : wpAny M A (alloc ({ cls := .type "dict", data := .dict #[] } : Obj) >>= fun d => forIn kw PUnit.unit (fun x _ => nsSet d x.1 x.2 >>= fun _ => pure (ForInStep.yield PUnit.unit)) >>= fun _ => pure [(pa, u), (pk, Value.ref d)]) Q E s) :
   wpAny M A (bindArgs (fnOf name qual { posonlyargs := [], args := [{ arg := pa, annotation := none, pos := p1 }], vararg := none, kwonlyargs := [], kw_defaults := [], kwarg := some { arg := pk, annotation := none, pos := p2 }, defaults := [] } body scope .none kV doc pm an cdv ct) ⟨[u], kw⟩) Q E s := by
  unfold bindArgs
  dsimp only [fnOf, List.map_cons, List.map_nil, List.append_nil, List.nil_append, List.length_cons, List.length_nil]
  refine wpAny_bind ?_
  refine wpAny_forIn_list _ (fun rest st s' => s' = s ∧ ∃ i, rest = kw.drop i ∧ st = ([(pa, u)], kw.take i)) _ ?_ ?_ _ _ ⟨rfl, 0, rfl, rfl⟩
  · rintro ⟨k, v⟩ rest b s' ⟨rfl, i, hr, rfl⟩
    have hlt : i < kw.length := by
      rcases Nat.lt_or_ge i kw.length with h | h
      · exact h
      · rw [List.drop_of_length_le h] at hr; cases hr
    rw [List.drop_eq_getElem_cons hlt] at hr
    injection hr with h1 h2
    have hk : k ≠ pa := by
      have := hne _ (List.getElem_mem hlt)
      rw [← h1] at this
      exact this
    dsimp only
    have c1 : (List.map (fun x : Arg => x.arg) [{ arg := pa, annotation := none, pos := p1 }]).contains k = false := by
      simp [hk]
    have c2 : (List.map (fun x : Arg => x.arg) []).contains k = false := rfl
    rw [c1, c2, if_neg (by decide)]
    refine KFB.if_so rfl ?_
    refine wpAny_pure ⟨rfl, i + 1, h2, ?_⟩
    rw [List.take_succ, List.getElem?_eq_getElem hlt, ← h1]
    rfl
  · rintro b s' ⟨rfl, i, hr, rfl⟩
    have hge : kw.length ≤ i := by
      rcases Nat.lt_or_ge i kw.length with h | h
      · rw [List.drop_eq_getElem_cons h] at hr; cases hr
      · exact h
    rw [List.take_of_length_le hge]
    refine wpAny_bind (m := seqItems? Value.none) (wpAny_pure ?_)
    refine KFB.if_not rfl ?_
    refine KFB.if_not ?_ ?_
    · simp
    refine wpAny_bind (m := forIn _ _ _) ?_
    show wpAny M A (forIn ([] : List (Str × Value)) [(pa, u)] _) _ _ _
    rw [List.forIn_nil]
    refine wpAny_pure ?_
    refine wpAny_bind (m := forIn _ _ _) ?_
    show wpAny M A (forIn ([] : List Str) ([(pa, u)], ([] : List Str)) _) _ _ _
    rw [List.forIn_nil]
    refine wpAny_pure ?_
    refine KFB.if_not rfl ?_
    refine wpAny_ite_split (fun hab => absurd hab (by show ¬ (kw.length > sizeLine + 1); omega)) (fun _ => ?_)
    have e : (List.filterMap (fun n => Option.map (fun x => (n, x)) (List.lookup n [(pa, u)])) [pa]) = [(pa, u)] := by
      simp [List.lookup]
    have e2 : ∀ d : Addr, (List.filterMap (fun n => Option.map (fun x => (n, x)) (List.lookup n [(pa, u)])) [pa]) ++ [(pk, Value.ref d)] = [(pa, u), (pk, Value.ref d)] := fun d => by rw [e]; rfl
    show wpAny M A (alloc ({ cls := .type "dict", data := .dict #[] } : Obj) >>= fun d => forIn kw PUnit.unit (fun x _ => nsSet d x.1 x.2 >>= fun _ => pure (ForInStep.yield PUnit.unit)) >>= fun _ => pure ((List.filterMap (fun n => Option.map (fun x => (n, x)) (List.lookup n [(pa, u)])) [pa]) ++ [(pk, Value.ref d)])) Q E s'
    simp only [e2]
    exact h

/-! ### a dict filled by names -/
section
variable {prog : Program} {w : World} {A : Around} {E : Value → Shared → Prop} {D : Addr}
theorem kw_set {s : Shared} {es : List DictEntry} {n : Nat} {k : Str} {v : Value} {Q : Unit → Shared → Prop} (hD : s.heap.get? D = some (dictOf es n))
    (hs : ∀ e ∈ es, e.key.isStr k = false) (hr : ∀ e ∈ es, e.refKey = false)
    (h : ∀ h', h'.get? D = some (dictOf (es ++ [⟨PyData.keyHash w.params k, .str k s.toks, v⟩]) (n + 1)) → Heap.SameBut D s.heap h' → Q () { s with heap := h', toks := s.toks + 1 }) :
    wpAny (model prog w) A (nsSet D k v) Q E s := by
  have e1 : es.any (·.key.isStr k) = false := by
    cases q : es.any (·.key.isStr k) with
    | false => rfl
    | true => obtain ⟨e, he, z⟩ := List.any_eq_true.mp q; rw [hs e he] at z; cases z
  have e2 : es.any (·.refKey) = false := by
    cases q : es.any (·.refKey) with
    | false => rfl
    | true => obtain ⟨e, he, z⟩ := List.any_eq_true.mp q; rw [hr e he] at z; cases z
  have e : Obj.putName k (PyData.keyHash w.params k) (.str k s.toks) v (dictOf es n) = dictOf (es ++ [⟨PyData.keyHash w.params k, .str k s.toks, v⟩]) (n + 1) := by
    rw [putName_dict, putL_new hs]
    show dictOf _ (if es.any (·.key.isStr k) then n else n + 1) = _
    rw [e1, if_neg Bool.false_ne_true]
  have c : aRefKeyMayBeTheName k es.toArray = false := by
    rw [aRefKeyMayBeTheName_at, ← Array.any_toList, ← Array.any_toList]
    show (!es.any (·.key.isStr k) && es.any (·.refKey)) = false
    rw [e2, Bool.and_false]
  unfold nsSet
  refine wpAny_bind (wpAny_bind (wpAny_askSetting (wpAny_pure (wpAny_bind (wpAny_mkText (wpAny_bind (wpAny_loadPart hD ?_)))))))
  dsimp only
  rw [c]
  refine wpAny_updatePart hD (h _ ?_ (Heap.SameBut.update ..))
  have e' : Obj.putName k (if k.cps.isEmpty = true then 0 else reduceHash ((model prog w).w.params.strHash k.cps)) (.str k s.toks) v (dictOf es n) = dictOf (es ++ [⟨PyData.keyHash w.params k, .str k s.toks, v⟩]) (n + 1) := e
  rw [Heap.get?_update_self _ hD (by rw [e']; rfl)]
  first | exact congrArg some e' | exact congrArg some e
theorem kw_fill {Q : PUnit → Shared → Prop} : ∀ (ex : List (Str × Value)) (s : Shared) (es : List DictEntry) (n : Nat), s.heap.get? D = some (dictOf es n) →
    (∀ e ∈ es, ∀ x ∈ ex, e.key.isStr x.1 = false) → (∀ e ∈ es, e.refKey = false) → (ex.map (·.1)).Nodup →
    (∀ h', h'.get? D = some (dictOf (es ++ kwEs w.params s.toks ex) (n + ex.length)) → Heap.SameBut D s.heap h' → Q ⟨⟩ { s with heap := h', toks := s.toks + ex.length }) →
    wpAny (model prog w) A (forIn ex PUnit.unit fun x _ => (nsSet D x.1 x.2 >>= fun _ => pure (ForInStep.yield PUnit.unit))) Q E s
  | [], s, es, n, hD, _, _, _, h => by
    rw [List.forIn_nil]
    refine wpAny_pure (h s.heap ?_ (Heap.SameBut.refl _ _))
    show s.heap.get? D = some (dictOf (es ++ []) n)
    rw [List.append_nil]
    exact hD
  | x :: r, s, es, n, hD, hs, hr, hn, h => by
    obtain ⟨hn1, hn2⟩ := List.nodup_cons.mp (show (x.1 :: r.map (·.1)).Nodup from hn)
    rw [List.forIn_cons]
    refine wpAny_bind (wpAny_bind (kw_set hD (fun e he => hs e he x (.head _)) hr fun h' hD' sb => wpAny_pure ?_))
    show wpAny (model prog w) A (forIn r PUnit.unit fun x _ => (nsSet D x.1 x.2 >>= fun _ => pure (ForInStep.yield PUnit.unit))) Q E { s with heap := h', toks := s.toks + 1 }
    refine kw_fill r { s with heap := h', toks := s.toks + 1 } _ _ hD' (fun e he y hy => ?_) (fun e he => ?_) hn2 fun h'' hD'' sb' => ?_
    · rcases List.mem_append.mp he with he | he
      · exact hs e he y (.tail _ hy)
      · obtain rfl := List.mem_singleton.mp he
        show (x.1 == y.1) = false
        exact beq_eq_false_iff_ne.mpr fun q => hn1 (by rw [q]; exact List.mem_map_of_mem hy)
    · rcases List.mem_append.mp he with he | he
      · exact hr e he
      · obtain rfl := List.mem_singleton.mp he
        rfl
    · have t1 : s.toks + 1 + r.length = s.toks + (r.length + 1) := by omega
      have t2 : n + 1 + r.length = n + (r.length + 1) := by omega
      show Q ⟨⟩ { s with heap := h'', toks := s.toks + 1 + r.length }
      rw [t1]
      refine h h'' ?_ (sb.trans sb')
      rw [t2, List.append_assoc] at hD''
      exact hD''
theorem pairs_mix : ∀ {es : List DictEntry} {ex : List (Str × Value)}, Pairs (strKind prog w) es ex → Pairs (mixKind prog w) es (ex.map fun p => ((Sum.inr p.1 : Key), p.2))
  | _, _, .nil => .nil
  | _, _, .cons h1 h2 h3 => .cons h1 h2 (pairs_mix h3)
theorem inr_nodup {α : Type} {l : List (Str × α)} (h : (l.map (·.1)).Nodup) : ((l.map fun p => ((Sum.inr p.1 : Key), p.2)).map (·.1)).Nodup := by
  rw [List.map_map]
  have e : ((fun x : Key × α => x.1) ∘ fun p : Str × α => ((Sum.inr p.1 : Key), p.2)) = fun p => Sum.inr p.1 := rfl
  rw [e, show (l.map fun p => (Sum.inr p.1 : Key)) = (l.map (·.1)).map Sum.inr from by rw [List.map_map]; rfl]
  exact List.Pairwise.map _ (fun a b hab e => hab (Sum.inr.inj e)) h
theorem dict_mix {h : Heap} {a : Addr} {o : Obj} {ex : List (Str × Value)} (ho : h.get? a = some o) (d : o.IsDictOf (strKind prog w) ex) : h.DictOf (mixKind prog w) a (ex.map fun p => ((Sum.inr p.1 : Key), p.2)) := by
  obtain ⟨es, ep, h1, h2, h3, h4, h5⟩ := d
  exact ⟨o, es, ep, ho, h1, h2, fun e he => by
    obtain ⟨k, hk, hh⟩ := h3 e he
    exact ⟨Sum.inr k, hk, hh⟩, pairs_mix h4, inr_nodup h5⟩
end

/-! ### a def f(a, **names) -/
abbrev inrs (kvs : List (Str × V)) : List (Key × V) := kvs.map fun p => ((Sum.inr p.1 : Key), p.2)
/-- the promise of a call with one positional value and names -/
def FnKw (P : Program) (w : World) (K : Frag) (mg : Str → Option Value) (base : Heap) (k : Nat) (f : Addr) (sp : V → List (Str × V) → Hp → VK → Prop) : Prop :=
  ∀ (A : Around) (outer : List Env) (s : Shared) (H : Hp) (u : Value) (v : V) (ks : List Str) (ws : List Value) (zs : List V) (Q : VK), Room k A → Env0 P w K mg base A outer s H → RelV v u → Vals zs ws → ks.length = ws.length → sp v (ks.zip zs) H Q →
    codeAny (model P w) A (.call (.ref f) ⟨[u], ks.zip ws⟩) (CR CX0 outer P w H s Q E0) s
section
variable {P : Program} {w : World} {K : Frag} {mg : Str → Option Value} {base : Heap} {k : Nat} {f : Addr} {name qual pa pk : Str} {p1 p2 : Pos} {body : List Stmt} {scope : Scope} {kV doc pm cdv ct oc : Value} {an od : Option Addr} {osl : Array (Option Value)} {N : List Str}
theorem map_zip_fst {α β : Type} : ∀ {ks : List α} {ws : List β}, ks.length = ws.length → (ks.zip ws).map (·.1) = ks
  | [], _, _ => rfl
  | _ :: _, [], h => by cases h
  | k :: ks, w :: ws, h => by
    rw [List.zip_cons_cons, List.map_cons, map_zip_fst (Nat.succ.inj h)]
theorem kv_zip : ∀ {ks : List Str} {zs : List V} {ws : List Value}, Vals zs ws → KV (inrs (ks.zip zs)) ((ks.zip ws).map fun p => ((Sum.inr p.1 : Key), p.2))
  | [], _, _, _ => .nil
  | _ :: _, [], [], _ => .nil
  | k :: ks, z :: zs, w :: ws, .cons r t => .cons ⟨rfl, r⟩ (kv_zip t)
theorem fn_kw {sp : V → List (Str × V) → Hp → VK → Prop} {spB : Sp}
    (lk : K.lookup f = some ⟨oc, od, .func (fnOf name qual { posonlyargs := [], args := [{ arg := pa, annotation := none, pos := p1 }], vararg := none, kwonlyargs := [], kw_defaults := [], kwarg := some { arg := pk, annotation := none, pos := p2 }, defaults := [] } body scope .none kV doc pm an cdv ct), osl⟩)
    (hcd : codeIn K cdv qual = true) (S : FnScope N [pa, pk] scope)
    (hpre : ∀ v kvs H Q, sp v kvs H Q → (∀ p ∈ kvs, p.1 ≠ pa) ∧ kvs.length ≤ 1000 ∧ (kvs.map (·.1)).Nodup ∧ ∀ D, H D = none → spB [v, .ref D] (upd H D (.dK (inrs kvs))) Q E0)
    (hbody : ∀ (A : Around) (outer : List Env) (s : Shared) (H : Hp) (vs : List V) (Q : VK), Room k (A.deeper (envOfC qual scope s.heap.objs.size f cdv)) → spB vs H Q E0 →
      ∃ t, PSs (cxOf CX0 P w K mg base N qual scope f cdv A outer s H E0).nox body t ∧ t { nx := fun _ H' => Q .non H', rt := Q } (start N vs) H) : FnKw P w K mg base (k + 1) f sp := by
  intro A outer s H u v ks ws zs Q hr e0 rv rz hkl hsp
  obtain ⟨hne, hlen, hnd, hq⟩ := hpre _ _ _ _ hsp
  have hzl : ks.length = zs.length := by rw [hkl]; exact rz.length.symm
  have hl2 : (ks.zip ws).length = (ks.zip zs).length := by rw [List.length_zip, List.length_zip, rz.length]
  have hmap : (ks.zip ws).map (·.1) = (ks.zip zs).map (·.1) := by rw [map_zip_fst hkl, map_zip_fst hzl]
  have hz2 : (ks.zip ws).length ≤ sizeLine := by rw [hl2, sizeLine_eq]; omega
  have hn : H s.heap.objs.size = Option.none := e0.hok.fresh (Nat.le_refl _)
  refine StX.run_bnd (E := E0) lk hcd S hr e0 (G := fun xs H2 => ∃ D, H D = Option.none ∧ xs = [v, V.ref D] ∧ H2 = upd H D (.dK (inrs (ks.zip zs)))) (fun A' Ex Q' h => ?_) fun s2 H2 xs ⟨D, hD, ex, eH⟩ hr' => ?_
  · refine bind_kw (fun x hx => ?_) hz2 ?_
    · have hm : x.1 ∈ (ks.zip ws).map (·.1) := List.mem_map_of_mem hx
      rw [hmap] at hm
      obtain ⟨p, hp, e⟩ := List.mem_map.mp hm
      rw [← e]
      exact hne p hp
    · refine wpAny_bind (wpAny_alloc ?_)
      have hD0 : (s.heap.push ({ cls := .type "dict", data := .dict #[] } : Obj)).get? s.heap.objs.size = some (dictOf [] 0) := Heap.get?_push_size _ rfl
      refine wpAny_bind (kw_fill (ks.zip ws) { s with heap := s.heap.push ({ cls := .type "dict", data := .dict #[] } : Obj) } [] 0 hD0 (fun _ he => nomatch he) (fun _ he => nomatch he) (by rw [hmap]; exact hnd) fun h' hD' sb => wpAny_pure ?_)
      rw [List.nil_append] at hD'
      have kp : ∀ b o, s.heap.get? b = some o → h'.get? b = some o := fun b o e => (sb.2 b (Nat.ne_of_lt (Heap.lt_size e))).trans (Heap.get?_push_of_some _ e)
      have dd : h'.DictOf (mixKind P w) s.heap.objs.size ((ks.zip ws).map fun p => ((Sum.inr p.1 : Key), p.2)) := dict_mix hD' (kp_isDict s.toks (0 + (ks.zip ws).length) (by rw [hmap]; exact hnd))
      have hbig := StX.env0_big e0
      have new : ObjOk P w (upd H s.heap.objs.size (.dK (inrs (ks.zip zs)))) h' s.heap.objs.size (.dK (inrs (ks.zip zs))) :=
        dk_new (by rw [List.length_map, sizeLine_eq]; omega) (beq_eq_false_iff_ne.mpr (Ne.symm (Nat.ne_of_lt hbig))) (kv_zip rz) dd
      have un : Un (frs outer) [] H (upd H s.heap.objs.size (.dK (inrs (ks.zip zs)))) s.heap h' := Un.laid kp (Nat.le_refl _) hn
      have e1 : Env0 P w K mg base A outer { s with heap := h', toks := s.toks + (ks.zip ws).length } (upd H s.heap.objs.size (.dK (inrs (ks.zip zs)))) := by
        refine ⟨e0.frames, e0.mod, fun b x e => ⟨kp b x (e0.bs b x e).1, ?_⟩, ?_, Heap.FunFrames.of_keeps (fun b x e _ => ⟨x, kp b x e, rfl⟩) e0.funs, fun b hb => ?_, e0.hok.laid kp (Nat.le_refl _) new, e0.bare⟩
        · rw [upd_ne (Nat.ne_of_lt (Heap.lt_size (e0.bs b x e).1))]
          exact (e0.bs b x e).2
        · exact Nat.le_trans e0.bsz (Nat.le_of_lt (Heap.lt_size hD'))
        · obtain ⟨_, x, hx, _⟩ := e0.funs.mem hb
          rw [upd_ne (Nat.ne_of_lt (Heap.lt_size hx))]
          exact e0.frf b hb
      exact h _ _ [v, V.ref s.heap.objs.size] [u, Value.ref s.heap.objs.size] e1 un rfl (fun e s' z => z.elim) (.cons rv (.cons rfl .nil)) rfl ⟨_, hn, rfl, rfl⟩
  · subst ex eH
    obtain ⟨t, ht, q⟩ := hbody A outer s2 _ _ Q hr' (hq D hD)
    exact ⟨t, ht.nox, q⟩
end
end K22

set_option Elab.async false
set_option linter.all false
set_option maxRecDepth 100000
set_option maxHeartbeats 0
/-! F1: the program's defs by places; the facts that the head tells of them. Printed by gen/facts.py -/
namespace K22
open PySem PySem.Spec PyProof.Rows L2
abbrev R : PySem.W.OpenRow := PySem.W.OpenLaw.row PySem.Challenge.rw_onelongturn_k22_whole_tables_and_their_p
def top (i : Nat) : Stmt := PySem.Challenge.pw_onelongturn_k22_whole_tables_and_their_p.main.body.getD i (.Pass ⟨0, 0, 0, 0⟩)
abbrev s_is_integer : Stmt := top 4
abbrev s_is_between : Stmt := top 5
abbrev s_is_number : Stmt := top 6
abbrev s_is_name : Stmt := top 8
abbrev s_is_row : Stmt := top 9
abbrev s_number_in : Stmt := top 10
abbrev s_trip_in : Stmt := top 40
abbrev s_in_order : Stmt := top 41
abbrev s_need_all_trips : Stmt := top 45
abbrev s_places_of : Stmt := top 46
abbrev s_need_few : Stmt := top 47
abbrev s_unbalanced : Stmt := top 48
abbrev s_need_names_alone : Stmt := top 50
abbrev s_law_pen : Stmt := top 53
abbrev s_law_draw : Stmt := top 54
abbrev s_law_pick : Stmt := top 55
abbrev s_law_mixed : Stmt := top 56
abbrev s_law_titles : Stmt := top 57
abbrev s_law_rows : Stmt := top 58
abbrev s_law_trip : Stmt := top 59
abbrev s_law_table : Stmt := top 60
abbrev s_law_trips_right : Stmt := top 61
abbrev s_law_moved_right : Stmt := top 62
abbrev s_law_scaled_right : Stmt := top 63
abbrev s_law_loops_right : Stmt := top 64
abbrev s_law_pauses_right : Stmt := top 65
abbrev s_law : Stmt := top 66
abbrev s_Day_init : Stmt := inClass (top 32) 1
abbrev s_Day_eq : Stmt := inClass (top 32) 8
abbrev s_Words_init : Stmt := inClass (top 34) 0
abbrev s_Words_next_word : Stmt := inClass (top 34) 1
abbrev s_Words_take_word : Stmt := inClass (top 34) 3
abbrev s_Words_take_name : Stmt := inClass (top 34) 4
abbrev s_Words_take_number : Stmt := inClass (top 34) 5
abbrev s_Words_take_end : Stmt := inClass (top 34) 6
abbrev s_Trip_init : Stmt := inClass (top 36) 1
abbrev s_Trip_read : Stmt := inClass (top 36) 2
abbrev s_Trip_lt : Stmt := inClass (top 36) 9
abbrev s_Trip_le : Stmt := inClass (top 36) 10
abbrev s_Trip_eq : Stmt := inClass (top 36) 11
abbrev s_Trip_str : Stmt := inClass (top 36) 12
abbrev s_Run_init : Stmt := inClass (top 38) 1
abbrev s_Run_timed : Stmt := inClass (top 38) 2
abbrev s_Run_str : Stmt := inClass (top 38) 3
abbrev s_Stay_init : Stmt := inClass (top 39) 1
abbrev s_Stay_timed : Stmt := inClass (top 39) 2
abbrev s_Table_init : Stmt := inClass (top 49) 0
abbrev s_Table_of : Stmt := inClass (top 49) 1
abbrev s_Table_between : Stmt := inClass (top 49) 2
abbrev s_Table_with_trips : Stmt := inClass (top 49) 3
abbrev s_Table_need_names : Stmt := inClass (top 49) 4
abbrev s_Table_without : Stmt := inClass (top 49) 5
abbrev s_Table_moved : Stmt := inClass (top 49) 6
abbrev s_Table_scaled : Stmt := inClass (top 49) 7
abbrev s_Table_getitem : Stmt := inClass (top 49) 8
abbrev s_Table_contains : Stmt := inClass (top 49) 9
abbrev s_Table_iter : Stmt := inClass (top 49) 10
abbrev s_Table_len : Stmt := inClass (top 49) 11
abbrev s_Table_add : Stmt := inClass (top 49) 12
abbrev s_Table_eq : Stmt := inClass (top 49) 13
abbrev s_Pauses_init : Stmt := inClass (top 51) 0
abbrev s_Pauses_of : Stmt := inClass (top 51) 1
abbrev s_Pauses_read : Stmt := inClass (top 51) 2
abbrev s_Pauses_put : Stmt := inClass (top 51) 3
abbrev s_Pauses_need_like : Stmt := inClass (top 51) 4
abbrev s_Pauses_places_with : Stmt := inClass (top 51) 5
abbrev s_Pauses_getitem : Stmt := inClass (top 51) 6
abbrev s_Pauses_add : Stmt := inClass (top 51) 9
abbrev s_Pauses_or : Stmt := inClass (top 51) 10
abbrev s_Pauses_and : Stmt := inClass (top 51) 11
abbrev s_Pauses_le : Stmt := inClass (top 51) 12
abbrev s_Pauses_lt : Stmt := inClass (top 51) 13
abbrev s_Pauses_ge : Stmt := inClass (top 51) 14
abbrev s_Pauses_eq : Stmt := inClass (top 51) 16
abbrev s_Pauses_str : Stmt := inClass (top 51) 17
/-- a static method's record's def -/
def saA (K : PySem.W.Frag) (C : Addr) (m : Str) : Addr := match PySem.W.recIn K (He.ma K C m) "staticmethod" with
  | some (.ref g :: _) => g
  | _ => 0
/-- one def: where it stands, its names, its text, its defaults -/
structure FD where
  ad : PySem.W.Frag → Addr
  name : Str
  qual : Str
  st : Stmt
  dfl : List He.Dv := []
abbrev FObs : Type := Option (Str × Str × Arguments × FuncBody × Scope × Addr × List Str × Addr)
def fObs (K : PySem.W.Frag) (f : Addr) : FObs := match K.lookup f with
  | some ⟨_, _, .func fd, _⟩ => some (fd.name, fd.qualname, fd.params, fd.body, fd.scope, fd.globals, fd.closure.map (·.1), fd.builtins)
  | _ => none
def FD.val (d : FD) : FObs := some (d.name, d.qual, defArgs d.st, .stmts (defBody d.st), defScope d.st, mainGlobals, [], builtinsNs)
def FD.dvs (K : PySem.W.Frag) (d : FD) : List V := d.dfl.map (He.Dv.v K)
def FD.ok (K : PySem.W.Frag) (d : FD) : Bool := PySem.W.keepIn K (.ref (d.ad K)) && (match K.lookup (d.ad K) with
  | some ⟨_, _, .func fd, _⟩ => PySem.W.codeIn K fd.code d.qual && He.dflB K fd.defaults (d.dvs K)
  | _ => false)
theorem FD.funD {K : PySem.W.Frag} {d : FD} (e : fObs K (d.ad K) = d.val) (c : d.ok K = true) : ∃ fd, FunD K d.name d.qual (defArgs d.st) (defBody d.st) (defScope d.st) (d.dvs K) [] (d.ad K) fd := by
  obtain ⟨kp, c2⟩ := He.ba c
  unfold fObs at e
  cases q : K.lookup (d.ad K) with
  | none =>
    rw [q] at c2
    cases c2
  | some o =>
    obtain ⟨oc, od, dt, osl⟩ := o
    rw [q] at c2 e
    cases dt with
    | func fd =>
      obtain ⟨n1, n2, n3, n4, n5, n6, n7, n8, n9, n10, n11, n12, n13, n14, n15⟩ := fd
      have e2 : (some (n1, n2, n3, n4, n5, n6, n7.map (·.1), n15) : FObs) = some (d.name, d.qual, defArgs d.st, .stmts (defBody d.st), defScope d.st, mainGlobals, [], builtinsNs) := e
      simp only [Option.some.injEq, Prod.mk.injEq] at e2
      obtain ⟨h1, h2, h3, h4, h5, h6, h7, h8⟩ := e2
      have h7 := List.map_eq_nil_iff.mp h7
      subst h1 h2 h3 h4 h5 h6 h7 h8
      have c3 : (PySem.W.codeIn K n13 d.qual && He.dflB K n8 (d.dvs K)) = true := c2
      obtain ⟨k1, k2⟩ := He.ba c3
      exact ⟨_, ⟨oc, od, n8, n9, n10, n11, n12, n13, n14, osl, rfl, q, k1, He.dflB_ok k2, .inl rfl⟩, kp⟩
    | _ => cases c2
/-- a method whose closure holds its class -/
structure FS where
  C : Str
  name : Str
  qual : Str
  st : Stmt
def FS.ad (d : FS) (K : PySem.W.Frag) : Addr := He.ma K (He.ga K d.C) d.name
def FS.cc (d : FS) (K : PySem.W.Frag) : Addr := match K.lookup (d.ad K) with
  | some ⟨_, _, .func fd, _⟩ => (match fd.closure with
    | (_, c) :: _ => c
    | _ => 0)
  | _ => 0
def FS.val (d : FS) : FObs := some (d.name, d.qual, defArgs d.st, .stmts (defBody d.st), defScope d.st, mainGlobals, ["__class__"], builtinsNs)
def fileB (K : PySem.W.Frag) (cd : Value) : Bool := match cd with
  | .ref c => (match K.lookup c with
    | some ⟨_, _, .fields vs, _⟩ => (match (vs[2]? : Option Value) with
      | some (.str f _) => decide (f = R.prog.main.file)
      | _ => false)
    | _ => false)
  | _ => false
def FS.ok (K : PySem.W.Frag) (d : FS) : Bool := (match K.lookup (d.ad K) with
  | some ⟨_, _, .func fd, _⟩ => PySem.W.codeIn K fd.code d.qual && (He.dflB K fd.defaults [] && fileB K fd.code)
  | _ => false) && ((match K.lookup (d.cc K) with
  | some ⟨_, _, .cell (some (.ref D)), _⟩ => decide (D = He.ga K d.C)
  | _ => false) && ((PySem.W.clsIn K (He.ga K d.C)).isSome && (He.eqO (PySem.W.nsIn K mainGlobals "super") (some none) && He.eqO (PySem.W.nsIn K cStatics "thirdparty.any") (some none))))
theorem FS.supK {K : PySem.W.Frag} {d : FS} (e : fObs K (d.ad K) = d.val) (c : d.ok K = true) : SupK R.prog K d.name d.qual (defArgs d.st) (defBody d.st) (defScope d.st) (d.ad K) (d.cc K) (He.ga K d.C) := by
  obtain ⟨c1, c⟩ := He.ba c
  obtain ⟨c2, c⟩ := He.ba c
  obtain ⟨c3, c⟩ := He.ba c
  obtain ⟨c4, c5⟩ := He.ba c
  refine ⟨?_, ?_, Option.isSome_iff_exists.mp c3, He.eqO_ok c4, He.eqO_ok c5⟩
  · unfold fObs at e
    cases q : K.lookup (d.ad K) with
    | none =>
      rw [q] at c1
      cases c1
    | some o =>
      obtain ⟨oc, od, dt, osl⟩ := o
      rw [q] at c1 e
      cases dt with
      | func fd =>
        obtain ⟨n1, n2, n3, n4, n5, n6, n7, n8, n9, n10, n11, n12, n13, n14, n15⟩ := fd
        have e2 : (some (n1, n2, n3, n4, n5, n6, n7.map (·.1), n15) : FObs) = some (d.name, d.qual, defArgs d.st, FuncBody.stmts (defBody d.st), defScope d.st, mainGlobals, [("__class__" : Str)], builtinsNs) := e
        simp only [Option.some.injEq, Prod.mk.injEq] at e2
        obtain ⟨h1, h2, h3, h4, h5, h6, h7, h8⟩ := e2
        obtain ⟨ac, h7⟩ : ∃ ac : Addr, n7 = [(("__class__" : Str), ac)] := by
          match n7, h7 with
          | [(z, ac)], h7 =>
            have : z = ("__class__" : Str) := by
              injection h7
            exact ⟨ac, by rw [this]⟩
        have hcc : d.cc K = ac := by
          unfold FS.cc
          rw [q, h7]
        have c3 : (PySem.W.codeIn K n13 d.qual && (He.dflB K n8 [] && fileB K n13)) = true := c1
        obtain ⟨k1, k2⟩ := He.ba c3
        obtain ⟨k2, k3⟩ := He.ba k2
        have kd : n8 = .none := by
          rcases He.dflB_ok k2 with z | z
          · exact z.2
          · exact absurd rfl z.1
        unfold fileB at k3
        split at k3
        · rename_i cda
          split at k3
          · rename_i ccl cdd vs ccs lc
            split at k3
            · rename_i f tf hf
              subst h1 h2 h3 h4 h5 h6 h8 kd
              refine ⟨n9, n10, n11, n14, oc, n12, od, osl, cda, ?_, k1, ccl, cdd, ccs, vs, tf, lc, ?_⟩
              · show some _ = some _
                rw [h7, hcc]
              · rw [hf, of_decide_eq_true k3]
            · cases k3
          · cases k3
        · cases k3
      | _ => cases c1
  · split at c2
    · rename_i ccl cdd D csl lc
      have := of_decide_eq_true c2
      subst this
      exact ⟨_, _, _, lc⟩
    · cases c2
/-! ### facts -/
inductive Fx where
  | fa (f : He.Fa)
  | meth (C m : Str) (o : Str)
  | con (C f z : Str)
  | nec (C : Str)
  | nf (C D : Str)
  | sf (C : Str)
  | fni (C m : Str)
  | kit (C D : Str)
  | ins (C : Str)
  | smet (C m : Str)
  | supc (C D o : Str)
  | dig
def Fx.ok (K : PySem.W.Frag) : Fx → Bool
  | .fa f => f.ok K
  | .meth C m o => He.eqO (PySem.W.findIn K (.ref (He.ga K C)) m) (some (some (.ref (He.ma K (He.ga K o) m)))) && (PySem.W.isFn K (.ref (He.ma K (He.ga K o) m)) && PySem.W.keepIn K (.ref (He.ma K (He.ga K o) m)))
  | .con C f z => (match PySem.W.findIn K (.ref (He.ga K C)) f with
    | some (some (.str y t)) => decide (y = z) && He.eqO (PySem.W.specialIn K (.str y t) "__get__") (some none)
    | _ => false)
  | .nec C => He.eqO (PySem.W.findIn K (.ref (He.ga K C)) "__ne__") (some (some (.builtin "object.__ne__"))) && decide (PySem.W.mroIn K (He.ga K C) (.type "object") = some true)
  | .nf C D => PySem.W.notFirst K (He.ga K C) (.ref (He.ga K D))
  | .sf C => PySem.W.selfFirst K (He.ga K C)
  | .fni C m => PySem.W.fnIn K (He.ma K (He.ga K C) m)
  | .kit C D => decide (PySem.W.kitOne K (.ref (He.ga K C)) (.ref (He.ga K D)) = some true)
  | .ins C => He.eqO (PySem.W.findIn K (.ref (He.ga K C)) "__class__") (some (some (.builtin "object.__class__"))) && (He.eqO (PySem.W.specialIn K (.builtin "object.__class__") "__get__") (some (some (.builtin "getset_descriptor.__get__"))) && (decide (PySem.W.takesIn K (.builtin "object.__class__") = some true) && decide (PySem.W.mroIn K (He.ga K C) (.type "object") = some true)))
  | .smet C m => PySem.W.readsIn K (He.ga K C) (.type "type") && (He.eqO (PySem.W.specialIn K (.ref (He.ga K C)) "__getattribute__") (some (some (.builtin "type.__getattribute__"))) && ((match PySem.W.findCls K (.ref (He.ga K C)) (.type "type") m with
    | some (.get (.builtin i) (.ref p) .none (.ref D)) => decide (i = "staticmethod.__get__") && (decide (p = He.ma K (He.ga K C) m) && decide (D = He.ga K C))
    | _ => false) && ((match PySem.W.recIn K (He.ma K (He.ga K C) m) "staticmethod" with
    | some (.ref g :: _) => true
    | _ => false) && PySem.W.keepIn K (.ref (saA K (He.ga K C) m)))))
  | .supc C D o => decide (PySem.W.mroIn K (He.ga K C) (.ref (He.ga K D)) = some true) && (He.eqO (PySem.W.ks_superIn K (He.ga K C) (He.ga K D) "__init__") (some (some (.ref (He.ma K (He.ga K o) "__init__")))) && (PySem.W.isFn K (.ref (He.ma K (He.ga K o) "__init__")) && PySem.W.fnIn K (He.ma K (He.ga K o) "__init__")))
  | .dig => PySem.W.nsOkIn K cStatics && He.eqO (PySem.W.nsIn K cStatics "sys.int_max_str_digits") (some none)
structure InsT (K : PySem.W.Frag) (C : Addr) : Prop where
  ha : PySem.W.findIn K (.ref C) "__class__" = some (some (.builtin "object.__class__"))
  hn : PySem.W.specialIn K (.builtin "object.__class__") "__get__" = some (some (.builtin "getset_descriptor.__get__"))
  htk : PySem.W.takesIn K (.builtin "object.__class__") = some true
  hm : PySem.W.mroIn K C (.type "object") = some true
section
variable {K : PySem.W.Frag}
open He (ba eqO_ok)
theorem meth_ok {C m o : Str} (c : (Fx.meth C m o).ok K = true) : Meth K (He.ga K C) m (He.ma K (He.ga K o) m) := by
  obtain ⟨c1, c⟩ := ba c
  obtain ⟨c2, c3⟩ := ba c
  exact ⟨eqO_ok c1, c2, c3⟩
theorem con_ok {C f z : Str} (c : (Fx.con C f z).ok K = true) (hcp : PySem.W.copiedNames.contains f = false) : ∃ t, Con K (He.ga K C) f (.str z) (.str z t) := by
  have c2 : (match PySem.W.findIn K (.ref (He.ga K C)) f with
    | some (some (.str y t)) => decide (y = z) && He.eqO (PySem.W.specialIn K (.str y t) "__get__") (some none)
    | _ => false) = true := c
  split at c2
  · rename_i y t e
    obtain ⟨h1, h2⟩ := ba c2
    have := of_decide_eq_true h1
    subst this
    exact ⟨t, e, ⟨t, rfl⟩, eqO_ok h2, hcp⟩
  · cases c2
theorem nec_ok {C : Str} (c : (Fx.nec C).ok K = true) : NeC K (He.ga K C) := by
  obtain ⟨c1, c2⟩ := ba c
  exact ⟨eqO_ok c1, of_decide_eq_true c2⟩
theorem ins_ok {C : Str} (c : (Fx.ins C).ok K = true) : InsT K (He.ga K C) := by
  obtain ⟨c1, c⟩ := ba c
  obtain ⟨c2, c⟩ := ba c
  obtain ⟨c3, c4⟩ := ba c
  exact ⟨eqO_ok c1, eqO_ok c2, of_decide_eq_true c3, of_decide_eq_true c4⟩
theorem smet_ok {C m : Str} (c : (Fx.smet C m).ok K = true) : SMet K (He.ga K C) m (He.ma K (He.ga K C) m) (saA K (He.ga K C) m) := by
  obtain ⟨c1, c⟩ := ba c
  obtain ⟨c2, c⟩ := ba c
  obtain ⟨c3, c⟩ := ba c
  obtain ⟨c4, c5⟩ := ba c
  refine ⟨c1, eqO_ok c2, ?_, ?_, c5⟩
  · split at c3
    · rename_i i p D e
      obtain ⟨h1, h2⟩ := ba c3
      obtain ⟨h2, h3⟩ := ba h2
      rw [e, of_decide_eq_true h1, of_decide_eq_true h2, of_decide_eq_true h3]
    · cases c3
  · unfold saA
    split at c4
    · rename_i g rest e
      rw [e]
      exact ⟨rest, rfl⟩
    · cases c4
theorem supc_ok {C D o : Str} (c : (Fx.supc C D o).ok K = true) : SupC K (He.ga K C) (He.ga K D) (He.ma K (He.ga K o) "__init__") := by
  obtain ⟨c1, c⟩ := ba c
  obtain ⟨c2, c⟩ := ba c
  obtain ⟨c3, c4⟩ := ba c
  exact ⟨of_decide_eq_true c1, eqO_ok c2, c3, c4⟩
end
/-! ### the lists -/
def d_is_integer : FD := { ad := fun K => He.ga K "is_integer", name := "is_integer", qual := "is_integer", st := s_is_integer }
def d_is_between : FD := { ad := fun K => He.ga K "is_between", name := "is_between", qual := "is_between", st := s_is_between }
def d_is_number : FD := { ad := fun K => He.ga K "is_number", name := "is_number", qual := "is_number", st := s_is_number }
def d_is_name : FD := { ad := fun K => He.ga K "is_name", name := "is_name", qual := "is_name", st := s_is_name }
def d_is_row : FD := { ad := fun K => He.ga K "is_row", name := "is_row", qual := "is_row", st := s_is_row }
def d_number_in : FD := { ad := fun K => He.ga K "number_in", name := "number_in", qual := "number_in", st := s_number_in }
def d_trip_in : FD := { ad := fun K => He.ga K "trip_in", name := "trip_in", qual := "trip_in", st := s_trip_in, dfl := [.str "", .int 1000000000000] }
def d_in_order : FD := { ad := fun K => He.ga K "in_order", name := "in_order", qual := "in_order", st := s_in_order }
def d_need_all_trips : FD := { ad := fun K => He.ga K "need_all_trips", name := "need_all_trips", qual := "need_all_trips", st := s_need_all_trips }
def d_places_of : FD := { ad := fun K => He.ga K "places_of", name := "places_of", qual := "places_of", st := s_places_of }
def d_need_few : FD := { ad := fun K => He.ga K "need_few", name := "need_few", qual := "need_few", st := s_need_few }
def d_unbalanced : FD := { ad := fun K => He.ga K "unbalanced", name := "unbalanced", qual := "unbalanced", st := s_unbalanced }
def d_need_names_alone : FD := { ad := fun K => He.ga K "need_names_alone", name := "need_names_alone", qual := "need_names_alone", st := s_need_names_alone }
def d_law_pen : FD := { ad := fun K => He.ga K "_law_pen", name := "_law_pen", qual := "_law_pen", st := s_law_pen }
def d_law_draw : FD := { ad := fun K => He.ga K "_law_draw", name := "_law_draw", qual := "_law_draw", st := s_law_draw }
def d_law_pick : FD := { ad := fun K => He.ga K "_law_pick", name := "_law_pick", qual := "_law_pick", st := s_law_pick }
def d_law_mixed : FD := { ad := fun K => He.ga K "_law_mixed", name := "_law_mixed", qual := "_law_mixed", st := s_law_mixed }
def d_law_titles : FD := { ad := fun K => He.ga K "_law_titles", name := "_law_titles", qual := "_law_titles", st := s_law_titles }
def d_law_rows : FD := { ad := fun K => He.ga K "_law_rows", name := "_law_rows", qual := "_law_rows", st := s_law_rows }
def d_law_trip : FD := { ad := fun K => He.ga K "_law_trip", name := "_law_trip", qual := "_law_trip", st := s_law_trip }
def d_law_table : FD := { ad := fun K => He.ga K "_law_table", name := "_law_table", qual := "_law_table", st := s_law_table }
def d_law_trips_right : FD := { ad := fun K => He.ga K "_law_trips_right", name := "_law_trips_right", qual := "_law_trips_right", st := s_law_trips_right }
def d_law_moved_right : FD := { ad := fun K => He.ga K "_law_moved_right", name := "_law_moved_right", qual := "_law_moved_right", st := s_law_moved_right }
def d_law_scaled_right : FD := { ad := fun K => He.ga K "_law_scaled_right", name := "_law_scaled_right", qual := "_law_scaled_right", st := s_law_scaled_right }
def d_law_loops_right : FD := { ad := fun K => He.ga K "_law_loops_right", name := "_law_loops_right", qual := "_law_loops_right", st := s_law_loops_right }
def d_law_pauses_right : FD := { ad := fun K => He.ga K "_law_pauses_right", name := "_law_pauses_right", qual := "_law_pauses_right", st := s_law_pauses_right }
def d_law : FD := { ad := fun K => He.ga K "law", name := "law", qual := "law", st := s_law }
def d_Day_init : FD := { ad := fun K => He.ma K (He.ga K "Day") "__init__", name := "__init__", qual := "Day.__init__", st := s_Day_init }
def d_Day_eq : FD := { ad := fun K => He.ma K (He.ga K "Day") "__eq__", name := "__eq__", qual := "Day.__eq__", st := s_Day_eq }
def d_Words_init : FD := { ad := fun K => He.ma K (He.ga K "Words") "__init__", name := "__init__", qual := "Words.__init__", st := s_Words_init }
def d_Words_next_word : FD := { ad := fun K => He.ma K (He.ga K "Words") "next_word", name := "next_word", qual := "Words.next_word", st := s_Words_next_word }
def d_Words_take_word : FD := { ad := fun K => He.ma K (He.ga K "Words") "take_word", name := "take_word", qual := "Words.take_word", st := s_Words_take_word }
def d_Words_take_name : FD := { ad := fun K => He.ma K (He.ga K "Words") "take_name", name := "take_name", qual := "Words.take_name", st := s_Words_take_name, dfl := [.str ""] }
def d_Words_take_number : FD := { ad := fun K => He.ma K (He.ga K "Words") "take_number", name := "take_number", qual := "Words.take_number", st := s_Words_take_number }
def d_Words_take_end : FD := { ad := fun K => He.ma K (He.ga K "Words") "take_end", name := "take_end", qual := "Words.take_end", st := s_Words_take_end }
def d_Trip_init : FD := { ad := fun K => He.ma K (He.ga K "Trip") "__init__", name := "__init__", qual := "Trip.__init__", st := s_Trip_init }
def d_Trip_read : FD := { ad := fun K => saA K (He.ga K "Trip") "read", name := "read", qual := "Trip.read", st := s_Trip_read }
def d_Trip_lt : FD := { ad := fun K => He.ma K (He.ga K "Trip") "__lt__", name := "__lt__", qual := "Trip.__lt__", st := s_Trip_lt }
def d_Trip_le : FD := { ad := fun K => He.ma K (He.ga K "Trip") "__le__", name := "__le__", qual := "Trip.__le__", st := s_Trip_le }
def d_Trip_eq : FD := { ad := fun K => He.ma K (He.ga K "Trip") "__eq__", name := "__eq__", qual := "Trip.__eq__", st := s_Trip_eq }
def d_Trip_str : FD := { ad := fun K => He.ma K (He.ga K "Trip") "__str__", name := "__str__", qual := "Trip.__str__", st := s_Trip_str }
def d_Run_timed : FD := { ad := fun K => He.ma K (He.ga K "Run") "timed", name := "timed", qual := "Run.timed", st := s_Run_timed }
def d_Run_str : FD := { ad := fun K => He.ma K (He.ga K "Run") "__str__", name := "__str__", qual := "Run.__str__", st := s_Run_str }
def d_Stay_timed : FD := { ad := fun K => He.ma K (He.ga K "Stay") "timed", name := "timed", qual := "Stay.timed", st := s_Stay_timed }
def d_Table_init : FD := { ad := fun K => He.ma K (He.ga K "Table") "__init__", name := "__init__", qual := "Table.__init__", st := s_Table_init }
def d_Table_of : FD := { ad := fun K => saA K (He.ga K "Table") "of", name := "of", qual := "Table.of", st := s_Table_of }
def d_Table_between : FD := { ad := fun K => He.ma K (He.ga K "Table") "between", name := "between", qual := "Table.between", st := s_Table_between }
def d_Table_with_trips : FD := { ad := fun K => He.ma K (He.ga K "Table") "with_trips", name := "with_trips", qual := "Table.with_trips", st := s_Table_with_trips }
def d_Table_need_names : FD := { ad := fun K => He.ma K (He.ga K "Table") "need_names", name := "need_names", qual := "Table.need_names", st := s_Table_need_names }
def d_Table_without : FD := { ad := fun K => He.ma K (He.ga K "Table") "without", name := "without", qual := "Table.without", st := s_Table_without }
def d_Table_moved : FD := { ad := fun K => He.ma K (He.ga K "Table") "moved", name := "moved", qual := "Table.moved", st := s_Table_moved }
def d_Table_scaled : FD := { ad := fun K => He.ma K (He.ga K "Table") "scaled", name := "scaled", qual := "Table.scaled", st := s_Table_scaled }
def d_Table_getitem : FD := { ad := fun K => He.ma K (He.ga K "Table") "__getitem__", name := "__getitem__", qual := "Table.__getitem__", st := s_Table_getitem }
def d_Table_contains : FD := { ad := fun K => He.ma K (He.ga K "Table") "__contains__", name := "__contains__", qual := "Table.__contains__", st := s_Table_contains }
def d_Table_iter : FD := { ad := fun K => He.ma K (He.ga K "Table") "__iter__", name := "__iter__", qual := "Table.__iter__", st := s_Table_iter }
def d_Table_len : FD := { ad := fun K => He.ma K (He.ga K "Table") "__len__", name := "__len__", qual := "Table.__len__", st := s_Table_len }
def d_Table_add : FD := { ad := fun K => He.ma K (He.ga K "Table") "__add__", name := "__add__", qual := "Table.__add__", st := s_Table_add }
def d_Table_eq : FD := { ad := fun K => He.ma K (He.ga K "Table") "__eq__", name := "__eq__", qual := "Table.__eq__", st := s_Table_eq }
def d_Pauses_init : FD := { ad := fun K => He.ma K (He.ga K "Pauses") "__init__", name := "__init__", qual := "Pauses.__init__", st := s_Pauses_init }
def d_Pauses_of : FD := { ad := fun K => saA K (He.ga K "Pauses") "of", name := "of", qual := "Pauses.of", st := s_Pauses_of }
def d_Pauses_read : FD := { ad := fun K => saA K (He.ga K "Pauses") "read", name := "read", qual := "Pauses.read", st := s_Pauses_read }
def d_Pauses_put : FD := { ad := fun K => He.ma K (He.ga K "Pauses") "put", name := "put", qual := "Pauses.put", st := s_Pauses_put }
def d_Pauses_need_like : FD := { ad := fun K => He.ma K (He.ga K "Pauses") "need_like", name := "need_like", qual := "Pauses.need_like", st := s_Pauses_need_like }
def d_Pauses_places_with : FD := { ad := fun K => He.ma K (He.ga K "Pauses") "places_with", name := "places_with", qual := "Pauses.places_with", st := s_Pauses_places_with }
def d_Pauses_getitem : FD := { ad := fun K => He.ma K (He.ga K "Pauses") "__getitem__", name := "__getitem__", qual := "Pauses.__getitem__", st := s_Pauses_getitem }
def d_Pauses_add : FD := { ad := fun K => He.ma K (He.ga K "Pauses") "__add__", name := "__add__", qual := "Pauses.__add__", st := s_Pauses_add }
def d_Pauses_or : FD := { ad := fun K => He.ma K (He.ga K "Pauses") "__or__", name := "__or__", qual := "Pauses.__or__", st := s_Pauses_or }
def d_Pauses_and : FD := { ad := fun K => He.ma K (He.ga K "Pauses") "__and__", name := "__and__", qual := "Pauses.__and__", st := s_Pauses_and }
def d_Pauses_le : FD := { ad := fun K => He.ma K (He.ga K "Pauses") "__le__", name := "__le__", qual := "Pauses.__le__", st := s_Pauses_le }
def d_Pauses_lt : FD := { ad := fun K => He.ma K (He.ga K "Pauses") "__lt__", name := "__lt__", qual := "Pauses.__lt__", st := s_Pauses_lt }
def d_Pauses_ge : FD := { ad := fun K => He.ma K (He.ga K "Pauses") "__ge__", name := "__ge__", qual := "Pauses.__ge__", st := s_Pauses_ge }
def d_Pauses_eq : FD := { ad := fun K => He.ma K (He.ga K "Pauses") "__eq__", name := "__eq__", qual := "Pauses.__eq__", st := s_Pauses_eq }
def d_Pauses_str : FD := { ad := fun K => He.ma K (He.ga K "Pauses") "__str__", name := "__str__", qual := "Pauses.__str__", st := s_Pauses_str }
def fds : List FD := [d_is_integer, d_is_between, d_is_number, d_is_name, d_is_row, d_number_in, d_trip_in, d_in_order, d_need_all_trips, d_places_of, d_need_few, d_unbalanced, d_need_names_alone, d_law_pen, d_law_draw, d_law_pick, d_law_mixed, d_law_titles, d_law_rows, d_law_trip, d_law_table, d_law_trips_right, d_law_moved_right, d_law_scaled_right, d_law_loops_right, d_law_pauses_right, d_law, d_Day_init, d_Day_eq, d_Words_init, d_Words_next_word, d_Words_take_word, d_Words_take_name, d_Words_take_number, d_Words_take_end, d_Trip_init, d_Trip_read, d_Trip_lt, d_Trip_le, d_Trip_eq, d_Trip_str, d_Run_timed, d_Run_str, d_Stay_timed, d_Table_init, d_Table_of, d_Table_between, d_Table_with_trips, d_Table_need_names, d_Table_without, d_Table_moved, d_Table_scaled, d_Table_getitem, d_Table_contains, d_Table_iter, d_Table_len, d_Table_add, d_Table_eq, d_Pauses_init, d_Pauses_of, d_Pauses_read, d_Pauses_put, d_Pauses_need_like, d_Pauses_places_with, d_Pauses_getitem, d_Pauses_add, d_Pauses_or, d_Pauses_and, d_Pauses_le, d_Pauses_lt, d_Pauses_ge, d_Pauses_eq, d_Pauses_str]
def e_Run_init : FS := ⟨"Run", "__init__", "Run.__init__", s_Run_init⟩
def e_Stay_init : FS := ⟨"Stay", "__init__", "Stay.__init__", s_Stay_init⟩
def fss : List FS := [e_Run_init, e_Stay_init]
def fxs : List Fx := [.fa (.glo "is_integer"), .fa (.glo "is_between"), .fa (.glo "is_number"), .fa (.glo "is_name"), .fa (.glo "is_row"), .fa (.glo "number_in"), .fa (.glo "Day"), .fa (.glo "Words"), .fa (.glo "Trip"), .fa (.glo "Paused"), .fa (.glo "Run"), .fa (.glo "Stay"), .fa (.glo "trip_in"), .fa (.glo "in_order"), .fa (.glo "need_all_trips"), .fa (.glo "places_of"), .fa (.glo "need_few"), .fa (.glo "unbalanced"), .fa (.glo "Table"), .fa (.glo "need_names_alone"), .fa (.glo "Pauses"), .fa (.glo "_law_pen"), .fa (.glo "_law_draw"), .fa (.glo "_law_pick"), .fa (.glo "_law_mixed"), .fa (.glo "_law_titles"), .fa (.glo "_law_rows"), .fa (.glo "_law_trip"), .fa (.glo "_law_table"), .fa (.glo "_law_trips_right"), .fa (.glo "_law_moved_right"), .fa (.glo "_law_scaled_right"), .fa (.glo "_law_loops_right"), .fa (.glo "_law_pauses_right"), .fa (.glo "law"), .fa (.free "isinstance"), .fa (.free "int"), .fa (.free "bool"), .fa (.free "str"), .fa (.free "list"), .fa (.free "tuple"), .fa (.free "len"), .fa (.free "all"), .fa (.free "sorted"), .fa (.free "set"), .fa (.free "enumerate"), .fa (.free "iter"), .fa (.free "dict"), .fa (.free "max"), .fa (.free "min"), .fa (.free "range"), .fa (.free "abs"), .fa (.free "super"), .fa (.int "MOST_NUMBER" 1000000000000), .fa (.int "MOST_LENGTH" 1000000000000), .fa (.int "MOST_TRIPS" 40), .fa (.int "MOST_PLACES" 8), .fa (.str "LETTERS" "abcdefghijklmnopqrstuvwxyz"), .fa (.cls "Day"), .fa (.mkr "Day"), .ins "Day", .fa (.noat "Day" "length"), .fa (.cls "Words"), .fa (.mkr "Words"), .ins "Words", .fa (.noat "Words" "line"), .fa (.noat "Words" "words"), .fa (.noat "Words" "spot"), .fa (.cls "Run"), .fa (.mkr "Run"), .ins "Run", .fa (.noat "Run" "name"), .fa (.noat "Run" "start"), .fa (.noat "Run" "leaves"), .fa (.noat "Run" "takes"), .fa (.noat "Run" "goal"), .fa (.cls "Stay"), .fa (.mkr "Stay"), .ins "Stay", .fa (.noat "Stay" "name"), .fa (.noat "Stay" "start"), .fa (.noat "Stay" "leaves"), .fa (.noat "Stay" "takes"), .fa (.noat "Stay" "goal"), .fa (.cls "Table"), .fa (.mkr "Table"), .ins "Table", .fa (.noat "Table" "day"), .fa (.noat "Table" "names"), .fa (.noat "Table" "places"), .fa (.noat "Table" "rows"), .fa (.cls "Pauses"), .fa (.mkr "Pauses"), .ins "Pauses", .fa (.noat "Pauses" "numbers"), .fa (.noat "Pauses" "rows"), .meth "Day" "__eq__" "Day", .meth "Words" "next_word" "Words", .meth "Words" "take_word" "Words", .meth "Words" "take_name" "Words", .meth "Words" "take_number" "Words", .meth "Words" "take_end" "Words", .meth "Run" "timed" "Run", .meth "Run" "__str__" "Run", .meth "Stay" "timed" "Stay", .meth "Stay" "__str__" "Trip", .meth "Run" "__lt__" "Trip", .meth "Run" "__le__" "Trip", .meth "Run" "__eq__" "Trip", .meth "Stay" "__lt__" "Trip", .meth "Stay" "__le__" "Trip", .meth "Stay" "__eq__" "Trip", .meth "Table" "between" "Table", .meth "Table" "with_trips" "Table", .meth "Table" "need_names" "Table", .meth "Table" "without" "Table", .meth "Table" "moved" "Table", .meth "Table" "scaled" "Table", .meth "Table" "__getitem__" "Table", .meth "Table" "__contains__" "Table", .meth "Table" "__iter__" "Table", .meth "Table" "__len__" "Table", .meth "Table" "__add__" "Table", .meth "Table" "__eq__" "Table", .meth "Pauses" "put" "Pauses", .meth "Pauses" "need_like" "Pauses", .meth "Pauses" "places_with" "Pauses", .meth "Pauses" "__getitem__" "Pauses", .meth "Pauses" "__add__" "Pauses", .meth "Pauses" "__or__" "Pauses", .meth "Pauses" "__and__" "Pauses", .meth "Pauses" "__le__" "Pauses", .meth "Pauses" "__lt__" "Pauses", .meth "Pauses" "__ge__" "Pauses", .meth "Pauses" "__eq__" "Pauses", .meth "Pauses" "__str__" "Pauses", .con "Run" "WORD" "run", .con "Stay" "WORD" "stay", .nec "Day", .nec "Table", .nec "Pauses", .nec "Run", .nec "Stay", .nf "Day" "Day", .nf "Table" "Table", .nf "Pauses" "Pauses", .nf "Run" "Run", .nf "Run" "Stay", .nf "Stay" "Run", .nf "Stay" "Stay", .sf "Table", .sf "Pauses", .fni "Table" "__getitem__", .fni "Pauses" "__getitem__", .kit "Day" "Day", .kit "Table" "Table", .kit "Pauses" "Pauses", .kit "Run" "Trip", .kit "Stay" "Trip", .smet "Pauses" "of", .smet "Pauses" "read", .smet "Table" "of", .smet "Trip" "read", .supc "Run" "Run" "Trip", .supc "Stay" "Stay" "Trip", .dig]
/-! ### the hook -/
def members (g : Addr → Option Obj) (a : Addr) : List Addr := match g a with
  | some ⟨_, _, .func fd, _⟩ => He.refV fd.code ++ He.refV fd.defaults ++ fd.closure.map (·.2)
  | some ⟨_, _, .cls cd, _⟩ => cd.ns :: (match g cd.ns with
    | some o => He.refsO o
    | none => [])
  | some ⟨_, _, .fields vs, _⟩ => vs.toList.flatMap He.refV
  | _ => []
def reach (g : Addr → Option Obj) (a : Addr) : List Addr := match g a with
  | some ⟨_, _, .cls cd, _⟩ => a :: (members g a).flatMap fun b => b :: (members g b).flatMap fun c => (match g c with
    | some ⟨_, _, .func fd, _⟩ => c :: members g c
    | _ => [c])
  | _ => a :: members g a

def gnames1 : List Str := ["is_integer", "is_between", "is_number", "is_name", "is_row", "number_in", "Day", "Words", "Trip", "Paused", "Run", "Stay", "trip_in", "in_order", "need_all_trips", "places_of", "need_few", "unbalanced", "Table", "need_names_alone"]
def gnames2 : List Str := ["Pauses", "_law_pen", "_law_draw", "_law_pick", "_law_mixed", "_law_titles", "_law_rows", "_law_trip", "_law_table", "_law_trips_right", "_law_moved_right", "_law_scaled_right", "_law_loops_right", "_law_pauses_right", "law"]
def gnames : List Str := gnames1 ++ gnames2
def asK (g : Addr → Option Obj) : List Addr := mainGlobals :: cStatics :: gnames.flatMap fun x => reach g (He.ga (He.frG g [mainGlobals]) x)
def exB (K : PySem.W.Frag) : Bool := (fxs.all fun f => f.ok K) && ((fds.all fun d => d.ok K) && fss.all fun d => d.ok K)
abbrev AlK : Type := Bool × List FObs
def obK (K : PySem.W.Frag) : AlK := (exB K, fds.map (fun d => fObs K (d.ad K)) ++ fss.map fun d => fObs K (d.ad K))
def vaK : AlK := (true, fds.map FD.val ++ fss.map FS.val)
def obG (g : Addr → Option Obj) : AlK := obK (He.frG g (asK g))
def hk : PySem.W.Hook where
  α := AlK
  obs := fun s => obG s.heap.get?
  val := fun _ => vaK
  says := fun _ h => ∃ K : PySem.W.Frag, K.In h ∧ obK K = vaK
  of := fun _ _ e => ⟨_, He.frG_in, e⟩
  keeps := fun _ _ _ ⟨K, hK, c⟩ k => ⟨K, PySem.W.Frag.In.keeps hK k, c⟩
def ob (s : PySem.W.SharedT) : AlK := obG (HandSHeadRun.getT s)
theorem ob_eq (s : PySem.W.SharedT) : ob s = hk.obs s.abs := by
  have e : HandSHeadRun.getT s = s.abs.heap.get? := funext (HandSHeadRun.getT_eq s)
  show obG (HandSHeadRun.getT s) = obG s.abs.heap.get?
  rw [e]

end K22

set_option Elab.async false
set_option linter.all false
set_option maxRecDepth 100000
set_option maxHeartbeats 0
/-! F2: the facts by names. Printed by gen/acc.py -/
namespace K22
open PySem PySem.Spec PyProof.Rows L2
structure Fc (K : PySem.W.Frag) (mg : Str → Option Value) : Prop where
  says : obK K = vaK
  gl : ∃ h : Heap, K.In h ∧ h.Ns mainGlobals mg
section
variable {K : PySem.W.Frag} {mg : Str → Option Value}
theorem Fc.ex (G : Fc K mg) : exB K = true := congrArg (fun z : AlK => z.1) G.says
theorem Fc.fx (G : Fc K mg) (i : Nat) {f : Fx} (h : fxs[i]? = some f := by rfl) : f.ok K = true :=
  List.all_eq_true.mp (He.ba (show ((fxs.all fun f => f.ok K) && ((fds.all fun d => d.ok K) && fss.all fun d => d.ok K)) = true from G.ex)).1 f (List.mem_of_getElem? h)
theorem Fc.obs (G : Fc K mg) : fds.map (fun d => fObs K (d.ad K)) ++ fss.map (fun d => fObs K (d.ad K)) = fds.map FD.val ++ fss.map FS.val := congrArg (fun z : AlK => z.2) G.says
theorem Fc.obD (G : Fc K mg) : fds.map (fun d => fObs K (d.ad K)) = fds.map FD.val := (List.append_inj G.obs (by rw [List.length_map, List.length_map])).1
theorem Fc.obS (G : Fc K mg) : fss.map (fun d => fObs K (d.ad K)) = fss.map FS.val := (List.append_inj G.obs (by rw [List.length_map, List.length_map])).2
theorem Fc.def_ (G : Fc K mg) (i : Nat) {d : FD} (h : fds[i]? = some d := by rfl) : ∃ fd, FunD K d.name d.qual (defArgs d.st) (defBody d.st) (defScope d.st) (d.dvs K) [] (d.ad K) fd := by
  have e2 : (fds.map fun d => fObs K (d.ad K))[i]? = (fds.map FD.val)[i]? := by rw [G.obD]
  rw [List.getElem?_map, List.getElem?_map, h] at e2
  exact FD.funD (Option.some.inj e2) (List.all_eq_true.mp (He.ba (He.ba (show ((fxs.all fun f => f.ok K) && ((fds.all fun d => d.ok K) && fss.all fun d => d.ok K)) = true from G.ex)).2).1 d (List.mem_of_getElem? h))
theorem Fc.sup_ (G : Fc K mg) (i : Nat) {d : FS} (h : fss[i]? = some d := by rfl) : SupK R.prog K d.name d.qual (defArgs d.st) (defBody d.st) (defScope d.st) (d.ad K) (d.cc K) (He.ga K d.C) := by
  have e2 : (fss.map fun d => fObs K (d.ad K))[i]? = (fss.map FS.val)[i]? := by rw [G.obS]
  rw [List.getElem?_map, List.getElem?_map, h] at e2
  exact FS.supK (Option.some.inj e2) (List.all_eq_true.mp (He.ba (He.ba (show ((fxs.all fun f => f.ok K) && ((fds.all fun d => d.ok K) && fss.all fun d => d.ok K)) = true from G.ex)).2).2 d (List.mem_of_getElem? h))
end
/-! ### addresses -/
def cDay (K : PySem.W.Frag) : Addr := He.ga K "Day"
def cWords (K : PySem.W.Frag) : Addr := He.ga K "Words"
def cTrip (K : PySem.W.Frag) : Addr := He.ga K "Trip"
def cRun (K : PySem.W.Frag) : Addr := He.ga K "Run"
def cStay (K : PySem.W.Frag) : Addr := He.ga K "Stay"
def cTable (K : PySem.W.Frag) : Addr := He.ga K "Table"
def cPauses (K : PySem.W.Frag) : Addr := He.ga K "Pauses"
def f_is_integer (K : PySem.W.Frag) : Addr := He.ga K "is_integer"
def f_is_between (K : PySem.W.Frag) : Addr := He.ga K "is_between"
def f_is_number (K : PySem.W.Frag) : Addr := He.ga K "is_number"
def f_is_name (K : PySem.W.Frag) : Addr := He.ga K "is_name"
def f_is_row (K : PySem.W.Frag) : Addr := He.ga K "is_row"
def f_number_in (K : PySem.W.Frag) : Addr := He.ga K "number_in"
def f_trip_in (K : PySem.W.Frag) : Addr := He.ga K "trip_in"
def f_in_order (K : PySem.W.Frag) : Addr := He.ga K "in_order"
def f_need_all_trips (K : PySem.W.Frag) : Addr := He.ga K "need_all_trips"
def f_places_of (K : PySem.W.Frag) : Addr := He.ga K "places_of"
def f_need_few (K : PySem.W.Frag) : Addr := He.ga K "need_few"
def f_unbalanced (K : PySem.W.Frag) : Addr := He.ga K "unbalanced"
def f_need_names_alone (K : PySem.W.Frag) : Addr := He.ga K "need_names_alone"
def f_law_pen (K : PySem.W.Frag) : Addr := He.ga K "_law_pen"
def f_law_draw (K : PySem.W.Frag) : Addr := He.ga K "_law_draw"
def f_law_pick (K : PySem.W.Frag) : Addr := He.ga K "_law_pick"
def f_law_mixed (K : PySem.W.Frag) : Addr := He.ga K "_law_mixed"
def f_law_titles (K : PySem.W.Frag) : Addr := He.ga K "_law_titles"
def f_law_rows (K : PySem.W.Frag) : Addr := He.ga K "_law_rows"
def f_law_trip (K : PySem.W.Frag) : Addr := He.ga K "_law_trip"
def f_law_table (K : PySem.W.Frag) : Addr := He.ga K "_law_table"
def f_law_trips_right (K : PySem.W.Frag) : Addr := He.ga K "_law_trips_right"
def f_law_moved_right (K : PySem.W.Frag) : Addr := He.ga K "_law_moved_right"
def f_law_scaled_right (K : PySem.W.Frag) : Addr := He.ga K "_law_scaled_right"
def f_law_loops_right (K : PySem.W.Frag) : Addr := He.ga K "_law_loops_right"
def f_law_pauses_right (K : PySem.W.Frag) : Addr := He.ga K "_law_pauses_right"
def f_law (K : PySem.W.Frag) : Addr := He.ga K "law"
def f_Day_init (K : PySem.W.Frag) : Addr := He.ma K (He.ga K "Day") "__init__"
def f_Day_eq (K : PySem.W.Frag) : Addr := He.ma K (He.ga K "Day") "__eq__"
def f_Words_init (K : PySem.W.Frag) : Addr := He.ma K (He.ga K "Words") "__init__"
def f_Words_next_word (K : PySem.W.Frag) : Addr := He.ma K (He.ga K "Words") "next_word"
def f_Words_take_word (K : PySem.W.Frag) : Addr := He.ma K (He.ga K "Words") "take_word"
def f_Words_take_name (K : PySem.W.Frag) : Addr := He.ma K (He.ga K "Words") "take_name"
def f_Words_take_number (K : PySem.W.Frag) : Addr := He.ma K (He.ga K "Words") "take_number"
def f_Words_take_end (K : PySem.W.Frag) : Addr := He.ma K (He.ga K "Words") "take_end"
def f_Trip_init (K : PySem.W.Frag) : Addr := He.ma K (He.ga K "Trip") "__init__"
def f_Trip_read (K : PySem.W.Frag) : Addr := saA K (He.ga K "Trip") "read"
def f_Trip_lt (K : PySem.W.Frag) : Addr := He.ma K (He.ga K "Trip") "__lt__"
def f_Trip_le (K : PySem.W.Frag) : Addr := He.ma K (He.ga K "Trip") "__le__"
def f_Trip_eq (K : PySem.W.Frag) : Addr := He.ma K (He.ga K "Trip") "__eq__"
def f_Trip_str (K : PySem.W.Frag) : Addr := He.ma K (He.ga K "Trip") "__str__"
def f_Run_timed (K : PySem.W.Frag) : Addr := He.ma K (He.ga K "Run") "timed"
def f_Run_str (K : PySem.W.Frag) : Addr := He.ma K (He.ga K "Run") "__str__"
def f_Stay_timed (K : PySem.W.Frag) : Addr := He.ma K (He.ga K "Stay") "timed"
def f_Table_init (K : PySem.W.Frag) : Addr := He.ma K (He.ga K "Table") "__init__"
def f_Table_of (K : PySem.W.Frag) : Addr := saA K (He.ga K "Table") "of"
def f_Table_between (K : PySem.W.Frag) : Addr := He.ma K (He.ga K "Table") "between"
def f_Table_with_trips (K : PySem.W.Frag) : Addr := He.ma K (He.ga K "Table") "with_trips"
def f_Table_need_names (K : PySem.W.Frag) : Addr := He.ma K (He.ga K "Table") "need_names"
def f_Table_without (K : PySem.W.Frag) : Addr := He.ma K (He.ga K "Table") "without"
def f_Table_moved (K : PySem.W.Frag) : Addr := He.ma K (He.ga K "Table") "moved"
def f_Table_scaled (K : PySem.W.Frag) : Addr := He.ma K (He.ga K "Table") "scaled"
def f_Table_getitem (K : PySem.W.Frag) : Addr := He.ma K (He.ga K "Table") "__getitem__"
def f_Table_contains (K : PySem.W.Frag) : Addr := He.ma K (He.ga K "Table") "__contains__"
def f_Table_iter (K : PySem.W.Frag) : Addr := He.ma K (He.ga K "Table") "__iter__"
def f_Table_len (K : PySem.W.Frag) : Addr := He.ma K (He.ga K "Table") "__len__"
def f_Table_add (K : PySem.W.Frag) : Addr := He.ma K (He.ga K "Table") "__add__"
def f_Table_eq (K : PySem.W.Frag) : Addr := He.ma K (He.ga K "Table") "__eq__"
def f_Pauses_init (K : PySem.W.Frag) : Addr := He.ma K (He.ga K "Pauses") "__init__"
def f_Pauses_of (K : PySem.W.Frag) : Addr := saA K (He.ga K "Pauses") "of"
def f_Pauses_read (K : PySem.W.Frag) : Addr := saA K (He.ga K "Pauses") "read"
def f_Pauses_put (K : PySem.W.Frag) : Addr := He.ma K (He.ga K "Pauses") "put"
def f_Pauses_need_like (K : PySem.W.Frag) : Addr := He.ma K (He.ga K "Pauses") "need_like"
def f_Pauses_places_with (K : PySem.W.Frag) : Addr := He.ma K (He.ga K "Pauses") "places_with"
def f_Pauses_getitem (K : PySem.W.Frag) : Addr := He.ma K (He.ga K "Pauses") "__getitem__"
def f_Pauses_add (K : PySem.W.Frag) : Addr := He.ma K (He.ga K "Pauses") "__add__"
def f_Pauses_or (K : PySem.W.Frag) : Addr := He.ma K (He.ga K "Pauses") "__or__"
def f_Pauses_and (K : PySem.W.Frag) : Addr := He.ma K (He.ga K "Pauses") "__and__"
def f_Pauses_le (K : PySem.W.Frag) : Addr := He.ma K (He.ga K "Pauses") "__le__"
def f_Pauses_lt (K : PySem.W.Frag) : Addr := He.ma K (He.ga K "Pauses") "__lt__"
def f_Pauses_ge (K : PySem.W.Frag) : Addr := He.ma K (He.ga K "Pauses") "__ge__"
def f_Pauses_eq (K : PySem.W.Frag) : Addr := He.ma K (He.ga K "Pauses") "__eq__"
def f_Pauses_str (K : PySem.W.Frag) : Addr := He.ma K (He.ga K "Pauses") "__str__"
def f_Run_init (K : PySem.W.Frag) : Addr := He.ma K (He.ga K "Run") "__init__"
def f_Stay_init (K : PySem.W.Frag) : Addr := He.ma K (He.ga K "Stay") "__init__"
section
variable {K : PySem.W.Frag} {mg : Str → Option Value}
theorem Fc.g_is_integer (G : Fc K mg) : mg "is_integer" = some (.ref (f_is_integer K)) := let ⟨h, X, g⟩ := G.gl; He.glo_ok X g (G.fx 0 (f := .fa (.glo "is_integer")))
theorem Fc.g_is_between (G : Fc K mg) : mg "is_between" = some (.ref (f_is_between K)) := let ⟨h, X, g⟩ := G.gl; He.glo_ok X g (G.fx 1 (f := .fa (.glo "is_between")))
theorem Fc.g_is_number (G : Fc K mg) : mg "is_number" = some (.ref (f_is_number K)) := let ⟨h, X, g⟩ := G.gl; He.glo_ok X g (G.fx 2 (f := .fa (.glo "is_number")))
theorem Fc.g_is_name (G : Fc K mg) : mg "is_name" = some (.ref (f_is_name K)) := let ⟨h, X, g⟩ := G.gl; He.glo_ok X g (G.fx 3 (f := .fa (.glo "is_name")))
theorem Fc.g_is_row (G : Fc K mg) : mg "is_row" = some (.ref (f_is_row K)) := let ⟨h, X, g⟩ := G.gl; He.glo_ok X g (G.fx 4 (f := .fa (.glo "is_row")))
theorem Fc.g_number_in (G : Fc K mg) : mg "number_in" = some (.ref (f_number_in K)) := let ⟨h, X, g⟩ := G.gl; He.glo_ok X g (G.fx 5 (f := .fa (.glo "number_in")))
theorem Fc.g_Day (G : Fc K mg) : mg "Day" = some (.ref (cDay K)) := let ⟨h, X, g⟩ := G.gl; He.glo_ok X g (G.fx 6 (f := .fa (.glo "Day")))
theorem Fc.g_Words (G : Fc K mg) : mg "Words" = some (.ref (cWords K)) := let ⟨h, X, g⟩ := G.gl; He.glo_ok X g (G.fx 7 (f := .fa (.glo "Words")))
theorem Fc.g_Trip (G : Fc K mg) : mg "Trip" = some (.ref (cTrip K)) := let ⟨h, X, g⟩ := G.gl; He.glo_ok X g (G.fx 8 (f := .fa (.glo "Trip")))
theorem Fc.g_Run (G : Fc K mg) : mg "Run" = some (.ref (cRun K)) := let ⟨h, X, g⟩ := G.gl; He.glo_ok X g (G.fx 10 (f := .fa (.glo "Run")))
theorem Fc.g_Stay (G : Fc K mg) : mg "Stay" = some (.ref (cStay K)) := let ⟨h, X, g⟩ := G.gl; He.glo_ok X g (G.fx 11 (f := .fa (.glo "Stay")))
theorem Fc.g_trip_in (G : Fc K mg) : mg "trip_in" = some (.ref (f_trip_in K)) := let ⟨h, X, g⟩ := G.gl; He.glo_ok X g (G.fx 12 (f := .fa (.glo "trip_in")))
theorem Fc.g_in_order (G : Fc K mg) : mg "in_order" = some (.ref (f_in_order K)) := let ⟨h, X, g⟩ := G.gl; He.glo_ok X g (G.fx 13 (f := .fa (.glo "in_order")))
theorem Fc.g_need_all_trips (G : Fc K mg) : mg "need_all_trips" = some (.ref (f_need_all_trips K)) := let ⟨h, X, g⟩ := G.gl; He.glo_ok X g (G.fx 14 (f := .fa (.glo "need_all_trips")))
theorem Fc.g_places_of (G : Fc K mg) : mg "places_of" = some (.ref (f_places_of K)) := let ⟨h, X, g⟩ := G.gl; He.glo_ok X g (G.fx 15 (f := .fa (.glo "places_of")))
theorem Fc.g_need_few (G : Fc K mg) : mg "need_few" = some (.ref (f_need_few K)) := let ⟨h, X, g⟩ := G.gl; He.glo_ok X g (G.fx 16 (f := .fa (.glo "need_few")))
theorem Fc.g_unbalanced (G : Fc K mg) : mg "unbalanced" = some (.ref (f_unbalanced K)) := let ⟨h, X, g⟩ := G.gl; He.glo_ok X g (G.fx 17 (f := .fa (.glo "unbalanced")))
theorem Fc.g_Table (G : Fc K mg) : mg "Table" = some (.ref (cTable K)) := let ⟨h, X, g⟩ := G.gl; He.glo_ok X g (G.fx 18 (f := .fa (.glo "Table")))
theorem Fc.g_need_names_alone (G : Fc K mg) : mg "need_names_alone" = some (.ref (f_need_names_alone K)) := let ⟨h, X, g⟩ := G.gl; He.glo_ok X g (G.fx 19 (f := .fa (.glo "need_names_alone")))
theorem Fc.g_Pauses (G : Fc K mg) : mg "Pauses" = some (.ref (cPauses K)) := let ⟨h, X, g⟩ := G.gl; He.glo_ok X g (G.fx 20 (f := .fa (.glo "Pauses")))
theorem Fc.g_law_pen (G : Fc K mg) : mg "_law_pen" = some (.ref (f_law_pen K)) := let ⟨h, X, g⟩ := G.gl; He.glo_ok X g (G.fx 21 (f := .fa (.glo "_law_pen")))
theorem Fc.g_law_draw (G : Fc K mg) : mg "_law_draw" = some (.ref (f_law_draw K)) := let ⟨h, X, g⟩ := G.gl; He.glo_ok X g (G.fx 22 (f := .fa (.glo "_law_draw")))
theorem Fc.g_law_pick (G : Fc K mg) : mg "_law_pick" = some (.ref (f_law_pick K)) := let ⟨h, X, g⟩ := G.gl; He.glo_ok X g (G.fx 23 (f := .fa (.glo "_law_pick")))
theorem Fc.g_law_mixed (G : Fc K mg) : mg "_law_mixed" = some (.ref (f_law_mixed K)) := let ⟨h, X, g⟩ := G.gl; He.glo_ok X g (G.fx 24 (f := .fa (.glo "_law_mixed")))
theorem Fc.g_law_titles (G : Fc K mg) : mg "_law_titles" = some (.ref (f_law_titles K)) := let ⟨h, X, g⟩ := G.gl; He.glo_ok X g (G.fx 25 (f := .fa (.glo "_law_titles")))
theorem Fc.g_law_rows (G : Fc K mg) : mg "_law_rows" = some (.ref (f_law_rows K)) := let ⟨h, X, g⟩ := G.gl; He.glo_ok X g (G.fx 26 (f := .fa (.glo "_law_rows")))
theorem Fc.g_law_trip (G : Fc K mg) : mg "_law_trip" = some (.ref (f_law_trip K)) := let ⟨h, X, g⟩ := G.gl; He.glo_ok X g (G.fx 27 (f := .fa (.glo "_law_trip")))
theorem Fc.g_law_table (G : Fc K mg) : mg "_law_table" = some (.ref (f_law_table K)) := let ⟨h, X, g⟩ := G.gl; He.glo_ok X g (G.fx 28 (f := .fa (.glo "_law_table")))
theorem Fc.g_law_trips_right (G : Fc K mg) : mg "_law_trips_right" = some (.ref (f_law_trips_right K)) := let ⟨h, X, g⟩ := G.gl; He.glo_ok X g (G.fx 29 (f := .fa (.glo "_law_trips_right")))
theorem Fc.g_law_moved_right (G : Fc K mg) : mg "_law_moved_right" = some (.ref (f_law_moved_right K)) := let ⟨h, X, g⟩ := G.gl; He.glo_ok X g (G.fx 30 (f := .fa (.glo "_law_moved_right")))
theorem Fc.g_law_scaled_right (G : Fc K mg) : mg "_law_scaled_right" = some (.ref (f_law_scaled_right K)) := let ⟨h, X, g⟩ := G.gl; He.glo_ok X g (G.fx 31 (f := .fa (.glo "_law_scaled_right")))
theorem Fc.g_law_loops_right (G : Fc K mg) : mg "_law_loops_right" = some (.ref (f_law_loops_right K)) := let ⟨h, X, g⟩ := G.gl; He.glo_ok X g (G.fx 32 (f := .fa (.glo "_law_loops_right")))
theorem Fc.g_law_pauses_right (G : Fc K mg) : mg "_law_pauses_right" = some (.ref (f_law_pauses_right K)) := let ⟨h, X, g⟩ := G.gl; He.glo_ok X g (G.fx 33 (f := .fa (.glo "_law_pauses_right")))
theorem Fc.g_law (G : Fc K mg) : mg "law" = some (.ref (f_law K)) := let ⟨h, X, g⟩ := G.gl; He.glo_ok X g (G.fx 34 (f := .fa (.glo "law")))
theorem Fc.b_isinstance (G : Fc K mg) : mg "isinstance" = none := let ⟨h, X, g⟩ := G.gl; He.free_ok X g (G.fx 35 (f := .fa (.free "isinstance")))
theorem Fc.b_int (G : Fc K mg) : mg "int" = none := let ⟨h, X, g⟩ := G.gl; He.free_ok X g (G.fx 36 (f := .fa (.free "int")))
theorem Fc.b_bool (G : Fc K mg) : mg "bool" = none := let ⟨h, X, g⟩ := G.gl; He.free_ok X g (G.fx 37 (f := .fa (.free "bool")))
theorem Fc.b_str (G : Fc K mg) : mg "str" = none := let ⟨h, X, g⟩ := G.gl; He.free_ok X g (G.fx 38 (f := .fa (.free "str")))
theorem Fc.b_list (G : Fc K mg) : mg "list" = none := let ⟨h, X, g⟩ := G.gl; He.free_ok X g (G.fx 39 (f := .fa (.free "list")))
theorem Fc.b_tuple (G : Fc K mg) : mg "tuple" = none := let ⟨h, X, g⟩ := G.gl; He.free_ok X g (G.fx 40 (f := .fa (.free "tuple")))
theorem Fc.b_len (G : Fc K mg) : mg "len" = none := let ⟨h, X, g⟩ := G.gl; He.free_ok X g (G.fx 41 (f := .fa (.free "len")))
theorem Fc.b_all (G : Fc K mg) : mg "all" = none := let ⟨h, X, g⟩ := G.gl; He.free_ok X g (G.fx 42 (f := .fa (.free "all")))
theorem Fc.b_sorted (G : Fc K mg) : mg "sorted" = none := let ⟨h, X, g⟩ := G.gl; He.free_ok X g (G.fx 43 (f := .fa (.free "sorted")))
theorem Fc.b_set (G : Fc K mg) : mg "set" = none := let ⟨h, X, g⟩ := G.gl; He.free_ok X g (G.fx 44 (f := .fa (.free "set")))
theorem Fc.b_enumerate (G : Fc K mg) : mg "enumerate" = none := let ⟨h, X, g⟩ := G.gl; He.free_ok X g (G.fx 45 (f := .fa (.free "enumerate")))
theorem Fc.b_iter (G : Fc K mg) : mg "iter" = none := let ⟨h, X, g⟩ := G.gl; He.free_ok X g (G.fx 46 (f := .fa (.free "iter")))
theorem Fc.b_dict (G : Fc K mg) : mg "dict" = none := let ⟨h, X, g⟩ := G.gl; He.free_ok X g (G.fx 47 (f := .fa (.free "dict")))
theorem Fc.b_max (G : Fc K mg) : mg "max" = none := let ⟨h, X, g⟩ := G.gl; He.free_ok X g (G.fx 48 (f := .fa (.free "max")))
theorem Fc.b_min (G : Fc K mg) : mg "min" = none := let ⟨h, X, g⟩ := G.gl; He.free_ok X g (G.fx 49 (f := .fa (.free "min")))
theorem Fc.b_range (G : Fc K mg) : mg "range" = none := let ⟨h, X, g⟩ := G.gl; He.free_ok X g (G.fx 50 (f := .fa (.free "range")))
theorem Fc.b_abs (G : Fc K mg) : mg "abs" = none := let ⟨h, X, g⟩ := G.gl; He.free_ok X g (G.fx 51 (f := .fa (.free "abs")))
theorem Fc.b_super (G : Fc K mg) : mg "super" = none := let ⟨h, X, g⟩ := G.gl; He.free_ok X g (G.fx 52 (f := .fa (.free "super")))
theorem Fc.i_MOST_NUMBER (G : Fc K mg) : ∃ t, mg "MOST_NUMBER" = some (.int 1000000000000 t) := let ⟨h, X, g⟩ := G.gl; He.int_ok X g (G.fx 53 (f := .fa (.int "MOST_NUMBER" 1000000000000)))
theorem Fc.i_MOST_LENGTH (G : Fc K mg) : ∃ t, mg "MOST_LENGTH" = some (.int 1000000000000 t) := let ⟨h, X, g⟩ := G.gl; He.int_ok X g (G.fx 54 (f := .fa (.int "MOST_LENGTH" 1000000000000)))
theorem Fc.i_MOST_TRIPS (G : Fc K mg) : ∃ t, mg "MOST_TRIPS" = some (.int 40 t) := let ⟨h, X, g⟩ := G.gl; He.int_ok X g (G.fx 55 (f := .fa (.int "MOST_TRIPS" 40)))
theorem Fc.i_MOST_PLACES (G : Fc K mg) : ∃ t, mg "MOST_PLACES" = some (.int 8 t) := let ⟨h, X, g⟩ := G.gl; He.int_ok X g (G.fx 56 (f := .fa (.int "MOST_PLACES" 8)))
theorem Fc.t_LETTERS (G : Fc K mg) : ∃ t, mg "LETTERS" = some (.str "abcdefghijklmnopqrstuvwxyz" t) := let ⟨h, X, g⟩ := G.gl; He.str_ok X g (G.fx 57 (f := .fa (.str "LETTERS" "abcdefghijklmnopqrstuvwxyz")))
theorem Fc.c_Day (G : Fc K mg) : Cls K (cDay K) := He.cls_ok (x := "Day") (G.fx 58 (f := .fa (.cls "Day")))
theorem Fc.m_Day (G : Fc K mg) : Mk K (cDay K) (f_Day_init K) := He.mkr_ok (x := "Day") (G.fx 59 (f := .fa (.mkr "Day")))
theorem Fc.ins_Day (G : Fc K mg) : InsT K (cDay K) := ins_ok (C := "Day") (G.fx 60 (f := .ins "Day"))
theorem Fc.n_Day_length (G : Fc K mg) : NoAttr K (cDay K) "length" := He.noat_ok (x := "Day") (G.fx 61 (f := .fa (.noat "Day" "length")))
theorem Fc.c_Words (G : Fc K mg) : Cls K (cWords K) := He.cls_ok (x := "Words") (G.fx 62 (f := .fa (.cls "Words")))
theorem Fc.m_Words (G : Fc K mg) : Mk K (cWords K) (f_Words_init K) := He.mkr_ok (x := "Words") (G.fx 63 (f := .fa (.mkr "Words")))
theorem Fc.ins_Words (G : Fc K mg) : InsT K (cWords K) := ins_ok (C := "Words") (G.fx 64 (f := .ins "Words"))
theorem Fc.n_Words_line (G : Fc K mg) : NoAttr K (cWords K) "line" := He.noat_ok (x := "Words") (G.fx 65 (f := .fa (.noat "Words" "line")))
theorem Fc.n_Words_words (G : Fc K mg) : NoAttr K (cWords K) "words" := He.noat_ok (x := "Words") (G.fx 66 (f := .fa (.noat "Words" "words")))
theorem Fc.n_Words_spot (G : Fc K mg) : NoAttr K (cWords K) "spot" := He.noat_ok (x := "Words") (G.fx 67 (f := .fa (.noat "Words" "spot")))
theorem Fc.c_Run (G : Fc K mg) : Cls K (cRun K) := He.cls_ok (x := "Run") (G.fx 68 (f := .fa (.cls "Run")))
theorem Fc.m_Run (G : Fc K mg) : Mk K (cRun K) (f_Run_init K) := He.mkr_ok (x := "Run") (G.fx 69 (f := .fa (.mkr "Run")))
theorem Fc.ins_Run (G : Fc K mg) : InsT K (cRun K) := ins_ok (C := "Run") (G.fx 70 (f := .ins "Run"))
theorem Fc.n_Run_name (G : Fc K mg) : NoAttr K (cRun K) "name" := He.noat_ok (x := "Run") (G.fx 71 (f := .fa (.noat "Run" "name")))
theorem Fc.n_Run_start (G : Fc K mg) : NoAttr K (cRun K) "start" := He.noat_ok (x := "Run") (G.fx 72 (f := .fa (.noat "Run" "start")))
theorem Fc.n_Run_leaves (G : Fc K mg) : NoAttr K (cRun K) "leaves" := He.noat_ok (x := "Run") (G.fx 73 (f := .fa (.noat "Run" "leaves")))
theorem Fc.n_Run_takes (G : Fc K mg) : NoAttr K (cRun K) "takes" := He.noat_ok (x := "Run") (G.fx 74 (f := .fa (.noat "Run" "takes")))
theorem Fc.n_Run_goal (G : Fc K mg) : NoAttr K (cRun K) "goal" := He.noat_ok (x := "Run") (G.fx 75 (f := .fa (.noat "Run" "goal")))
theorem Fc.c_Stay (G : Fc K mg) : Cls K (cStay K) := He.cls_ok (x := "Stay") (G.fx 76 (f := .fa (.cls "Stay")))
theorem Fc.m_Stay (G : Fc K mg) : Mk K (cStay K) (f_Stay_init K) := He.mkr_ok (x := "Stay") (G.fx 77 (f := .fa (.mkr "Stay")))
theorem Fc.ins_Stay (G : Fc K mg) : InsT K (cStay K) := ins_ok (C := "Stay") (G.fx 78 (f := .ins "Stay"))
theorem Fc.n_Stay_name (G : Fc K mg) : NoAttr K (cStay K) "name" := He.noat_ok (x := "Stay") (G.fx 79 (f := .fa (.noat "Stay" "name")))
theorem Fc.n_Stay_start (G : Fc K mg) : NoAttr K (cStay K) "start" := He.noat_ok (x := "Stay") (G.fx 80 (f := .fa (.noat "Stay" "start")))
theorem Fc.n_Stay_leaves (G : Fc K mg) : NoAttr K (cStay K) "leaves" := He.noat_ok (x := "Stay") (G.fx 81 (f := .fa (.noat "Stay" "leaves")))
theorem Fc.n_Stay_takes (G : Fc K mg) : NoAttr K (cStay K) "takes" := He.noat_ok (x := "Stay") (G.fx 82 (f := .fa (.noat "Stay" "takes")))
theorem Fc.n_Stay_goal (G : Fc K mg) : NoAttr K (cStay K) "goal" := He.noat_ok (x := "Stay") (G.fx 83 (f := .fa (.noat "Stay" "goal")))
theorem Fc.c_Table (G : Fc K mg) : Cls K (cTable K) := He.cls_ok (x := "Table") (G.fx 84 (f := .fa (.cls "Table")))
theorem Fc.m_Table (G : Fc K mg) : Mk K (cTable K) (f_Table_init K) := He.mkr_ok (x := "Table") (G.fx 85 (f := .fa (.mkr "Table")))
theorem Fc.ins_Table (G : Fc K mg) : InsT K (cTable K) := ins_ok (C := "Table") (G.fx 86 (f := .ins "Table"))
theorem Fc.n_Table_day (G : Fc K mg) : NoAttr K (cTable K) "day" := He.noat_ok (x := "Table") (G.fx 87 (f := .fa (.noat "Table" "day")))
theorem Fc.n_Table_names (G : Fc K mg) : NoAttr K (cTable K) "names" := He.noat_ok (x := "Table") (G.fx 88 (f := .fa (.noat "Table" "names")))
theorem Fc.n_Table_places (G : Fc K mg) : NoAttr K (cTable K) "places" := He.noat_ok (x := "Table") (G.fx 89 (f := .fa (.noat "Table" "places")))
theorem Fc.n_Table_rows (G : Fc K mg) : NoAttr K (cTable K) "rows" := He.noat_ok (x := "Table") (G.fx 90 (f := .fa (.noat "Table" "rows")))
theorem Fc.c_Pauses (G : Fc K mg) : Cls K (cPauses K) := He.cls_ok (x := "Pauses") (G.fx 91 (f := .fa (.cls "Pauses")))
theorem Fc.m_Pauses (G : Fc K mg) : Mk K (cPauses K) (f_Pauses_init K) := He.mkr_ok (x := "Pauses") (G.fx 92 (f := .fa (.mkr "Pauses")))
theorem Fc.ins_Pauses (G : Fc K mg) : InsT K (cPauses K) := ins_ok (C := "Pauses") (G.fx 93 (f := .ins "Pauses"))
theorem Fc.n_Pauses_numbers (G : Fc K mg) : NoAttr K (cPauses K) "numbers" := He.noat_ok (x := "Pauses") (G.fx 94 (f := .fa (.noat "Pauses" "numbers")))
theorem Fc.n_Pauses_rows (G : Fc K mg) : NoAttr K (cPauses K) "rows" := He.noat_ok (x := "Pauses") (G.fx 95 (f := .fa (.noat "Pauses" "rows")))
theorem Fc.h_Day_eq (G : Fc K mg) : Meth K (cDay K) "__eq__" (f_Day_eq K) := meth_ok (C := "Day") (m := "__eq__") (o := "Day") (G.fx 96 (f := .meth "Day" "__eq__" "Day"))
theorem Fc.h_Words_next_word (G : Fc K mg) : Meth K (cWords K) "next_word" (f_Words_next_word K) := meth_ok (C := "Words") (m := "next_word") (o := "Words") (G.fx 97 (f := .meth "Words" "next_word" "Words"))
theorem Fc.h_Words_take_word (G : Fc K mg) : Meth K (cWords K) "take_word" (f_Words_take_word K) := meth_ok (C := "Words") (m := "take_word") (o := "Words") (G.fx 98 (f := .meth "Words" "take_word" "Words"))
theorem Fc.h_Words_take_name (G : Fc K mg) : Meth K (cWords K) "take_name" (f_Words_take_name K) := meth_ok (C := "Words") (m := "take_name") (o := "Words") (G.fx 99 (f := .meth "Words" "take_name" "Words"))
theorem Fc.h_Words_take_number (G : Fc K mg) : Meth K (cWords K) "take_number" (f_Words_take_number K) := meth_ok (C := "Words") (m := "take_number") (o := "Words") (G.fx 100 (f := .meth "Words" "take_number" "Words"))
theorem Fc.h_Words_take_end (G : Fc K mg) : Meth K (cWords K) "take_end" (f_Words_take_end K) := meth_ok (C := "Words") (m := "take_end") (o := "Words") (G.fx 101 (f := .meth "Words" "take_end" "Words"))
theorem Fc.h_Run_timed (G : Fc K mg) : Meth K (cRun K) "timed" (f_Run_timed K) := meth_ok (C := "Run") (m := "timed") (o := "Run") (G.fx 102 (f := .meth "Run" "timed" "Run"))
theorem Fc.h_Run_str (G : Fc K mg) : Meth K (cRun K) "__str__" (f_Run_str K) := meth_ok (C := "Run") (m := "__str__") (o := "Run") (G.fx 103 (f := .meth "Run" "__str__" "Run"))
theorem Fc.h_Stay_timed (G : Fc K mg) : Meth K (cStay K) "timed" (f_Stay_timed K) := meth_ok (C := "Stay") (m := "timed") (o := "Stay") (G.fx 104 (f := .meth "Stay" "timed" "Stay"))
theorem Fc.h_Stay_str (G : Fc K mg) : Meth K (cStay K) "__str__" (f_Trip_str K) := meth_ok (C := "Stay") (m := "__str__") (o := "Trip") (G.fx 105 (f := .meth "Stay" "__str__" "Trip"))
theorem Fc.h_Run_lt (G : Fc K mg) : Meth K (cRun K) "__lt__" (f_Trip_lt K) := meth_ok (C := "Run") (m := "__lt__") (o := "Trip") (G.fx 106 (f := .meth "Run" "__lt__" "Trip"))
theorem Fc.h_Run_le (G : Fc K mg) : Meth K (cRun K) "__le__" (f_Trip_le K) := meth_ok (C := "Run") (m := "__le__") (o := "Trip") (G.fx 107 (f := .meth "Run" "__le__" "Trip"))
theorem Fc.h_Run_eq (G : Fc K mg) : Meth K (cRun K) "__eq__" (f_Trip_eq K) := meth_ok (C := "Run") (m := "__eq__") (o := "Trip") (G.fx 108 (f := .meth "Run" "__eq__" "Trip"))
theorem Fc.h_Stay_lt (G : Fc K mg) : Meth K (cStay K) "__lt__" (f_Trip_lt K) := meth_ok (C := "Stay") (m := "__lt__") (o := "Trip") (G.fx 109 (f := .meth "Stay" "__lt__" "Trip"))
theorem Fc.h_Stay_le (G : Fc K mg) : Meth K (cStay K) "__le__" (f_Trip_le K) := meth_ok (C := "Stay") (m := "__le__") (o := "Trip") (G.fx 110 (f := .meth "Stay" "__le__" "Trip"))
theorem Fc.h_Stay_eq (G : Fc K mg) : Meth K (cStay K) "__eq__" (f_Trip_eq K) := meth_ok (C := "Stay") (m := "__eq__") (o := "Trip") (G.fx 111 (f := .meth "Stay" "__eq__" "Trip"))
theorem Fc.h_Table_between (G : Fc K mg) : Meth K (cTable K) "between" (f_Table_between K) := meth_ok (C := "Table") (m := "between") (o := "Table") (G.fx 112 (f := .meth "Table" "between" "Table"))
theorem Fc.h_Table_with_trips (G : Fc K mg) : Meth K (cTable K) "with_trips" (f_Table_with_trips K) := meth_ok (C := "Table") (m := "with_trips") (o := "Table") (G.fx 113 (f := .meth "Table" "with_trips" "Table"))
theorem Fc.h_Table_need_names (G : Fc K mg) : Meth K (cTable K) "need_names" (f_Table_need_names K) := meth_ok (C := "Table") (m := "need_names") (o := "Table") (G.fx 114 (f := .meth "Table" "need_names" "Table"))
theorem Fc.h_Table_without (G : Fc K mg) : Meth K (cTable K) "without" (f_Table_without K) := meth_ok (C := "Table") (m := "without") (o := "Table") (G.fx 115 (f := .meth "Table" "without" "Table"))
theorem Fc.h_Table_moved (G : Fc K mg) : Meth K (cTable K) "moved" (f_Table_moved K) := meth_ok (C := "Table") (m := "moved") (o := "Table") (G.fx 116 (f := .meth "Table" "moved" "Table"))
theorem Fc.h_Table_scaled (G : Fc K mg) : Meth K (cTable K) "scaled" (f_Table_scaled K) := meth_ok (C := "Table") (m := "scaled") (o := "Table") (G.fx 117 (f := .meth "Table" "scaled" "Table"))
theorem Fc.h_Table_getitem (G : Fc K mg) : Meth K (cTable K) "__getitem__" (f_Table_getitem K) := meth_ok (C := "Table") (m := "__getitem__") (o := "Table") (G.fx 118 (f := .meth "Table" "__getitem__" "Table"))
theorem Fc.h_Table_contains (G : Fc K mg) : Meth K (cTable K) "__contains__" (f_Table_contains K) := meth_ok (C := "Table") (m := "__contains__") (o := "Table") (G.fx 119 (f := .meth "Table" "__contains__" "Table"))
theorem Fc.h_Table_iter (G : Fc K mg) : Meth K (cTable K) "__iter__" (f_Table_iter K) := meth_ok (C := "Table") (m := "__iter__") (o := "Table") (G.fx 120 (f := .meth "Table" "__iter__" "Table"))
theorem Fc.h_Table_len (G : Fc K mg) : Meth K (cTable K) "__len__" (f_Table_len K) := meth_ok (C := "Table") (m := "__len__") (o := "Table") (G.fx 121 (f := .meth "Table" "__len__" "Table"))
theorem Fc.h_Table_add (G : Fc K mg) : Meth K (cTable K) "__add__" (f_Table_add K) := meth_ok (C := "Table") (m := "__add__") (o := "Table") (G.fx 122 (f := .meth "Table" "__add__" "Table"))
theorem Fc.h_Table_eq (G : Fc K mg) : Meth K (cTable K) "__eq__" (f_Table_eq K) := meth_ok (C := "Table") (m := "__eq__") (o := "Table") (G.fx 123 (f := .meth "Table" "__eq__" "Table"))
theorem Fc.h_Pauses_put (G : Fc K mg) : Meth K (cPauses K) "put" (f_Pauses_put K) := meth_ok (C := "Pauses") (m := "put") (o := "Pauses") (G.fx 124 (f := .meth "Pauses" "put" "Pauses"))
theorem Fc.h_Pauses_need_like (G : Fc K mg) : Meth K (cPauses K) "need_like" (f_Pauses_need_like K) := meth_ok (C := "Pauses") (m := "need_like") (o := "Pauses") (G.fx 125 (f := .meth "Pauses" "need_like" "Pauses"))
theorem Fc.h_Pauses_places_with (G : Fc K mg) : Meth K (cPauses K) "places_with" (f_Pauses_places_with K) := meth_ok (C := "Pauses") (m := "places_with") (o := "Pauses") (G.fx 126 (f := .meth "Pauses" "places_with" "Pauses"))
theorem Fc.h_Pauses_getitem (G : Fc K mg) : Meth K (cPauses K) "__getitem__" (f_Pauses_getitem K) := meth_ok (C := "Pauses") (m := "__getitem__") (o := "Pauses") (G.fx 127 (f := .meth "Pauses" "__getitem__" "Pauses"))
theorem Fc.h_Pauses_add (G : Fc K mg) : Meth K (cPauses K) "__add__" (f_Pauses_add K) := meth_ok (C := "Pauses") (m := "__add__") (o := "Pauses") (G.fx 128 (f := .meth "Pauses" "__add__" "Pauses"))
theorem Fc.h_Pauses_or (G : Fc K mg) : Meth K (cPauses K) "__or__" (f_Pauses_or K) := meth_ok (C := "Pauses") (m := "__or__") (o := "Pauses") (G.fx 129 (f := .meth "Pauses" "__or__" "Pauses"))
theorem Fc.h_Pauses_and (G : Fc K mg) : Meth K (cPauses K) "__and__" (f_Pauses_and K) := meth_ok (C := "Pauses") (m := "__and__") (o := "Pauses") (G.fx 130 (f := .meth "Pauses" "__and__" "Pauses"))
theorem Fc.h_Pauses_le (G : Fc K mg) : Meth K (cPauses K) "__le__" (f_Pauses_le K) := meth_ok (C := "Pauses") (m := "__le__") (o := "Pauses") (G.fx 131 (f := .meth "Pauses" "__le__" "Pauses"))
theorem Fc.h_Pauses_lt (G : Fc K mg) : Meth K (cPauses K) "__lt__" (f_Pauses_lt K) := meth_ok (C := "Pauses") (m := "__lt__") (o := "Pauses") (G.fx 132 (f := .meth "Pauses" "__lt__" "Pauses"))
theorem Fc.h_Pauses_ge (G : Fc K mg) : Meth K (cPauses K) "__ge__" (f_Pauses_ge K) := meth_ok (C := "Pauses") (m := "__ge__") (o := "Pauses") (G.fx 133 (f := .meth "Pauses" "__ge__" "Pauses"))
theorem Fc.h_Pauses_eq (G : Fc K mg) : Meth K (cPauses K) "__eq__" (f_Pauses_eq K) := meth_ok (C := "Pauses") (m := "__eq__") (o := "Pauses") (G.fx 134 (f := .meth "Pauses" "__eq__" "Pauses"))
theorem Fc.h_Pauses_str (G : Fc K mg) : Meth K (cPauses K) "__str__" (f_Pauses_str K) := meth_ok (C := "Pauses") (m := "__str__") (o := "Pauses") (G.fx 135 (f := .meth "Pauses" "__str__" "Pauses"))
theorem Fc.w_Run (G : Fc K mg) : ∃ t, Con K (cRun K) "WORD" (.str "run") (.str "run" t) := con_ok (C := "Run") (G.fx 136 (f := .con "Run" "WORD" "run")) (by decide +kernel)
theorem Fc.w_Stay (G : Fc K mg) : ∃ t, Con K (cStay K) "WORD" (.str "stay") (.str "stay" t) := con_ok (C := "Stay") (G.fx 137 (f := .con "Stay" "WORD" "stay")) (by decide +kernel)
theorem Fc.ne_Day (G : Fc K mg) : NeC K (cDay K) := nec_ok (C := "Day") (G.fx 138 (f := .nec "Day"))
theorem Fc.ne_Table (G : Fc K mg) : NeC K (cTable K) := nec_ok (C := "Table") (G.fx 139 (f := .nec "Table"))
theorem Fc.ne_Pauses (G : Fc K mg) : NeC K (cPauses K) := nec_ok (C := "Pauses") (G.fx 140 (f := .nec "Pauses"))
theorem Fc.ne_Run (G : Fc K mg) : NeC K (cRun K) := nec_ok (C := "Run") (G.fx 141 (f := .nec "Run"))
theorem Fc.ne_Stay (G : Fc K mg) : NeC K (cStay K) := nec_ok (C := "Stay") (G.fx 142 (f := .nec "Stay"))
theorem Fc.nf_Day_Day (G : Fc K mg) : PySem.W.notFirst K (cDay K) (.ref (cDay K)) = true := G.fx 143 (f := .nf "Day" "Day")
theorem Fc.nf_Table_Table (G : Fc K mg) : PySem.W.notFirst K (cTable K) (.ref (cTable K)) = true := G.fx 144 (f := .nf "Table" "Table")
theorem Fc.nf_Pauses_Pauses (G : Fc K mg) : PySem.W.notFirst K (cPauses K) (.ref (cPauses K)) = true := G.fx 145 (f := .nf "Pauses" "Pauses")
theorem Fc.nf_Run_Run (G : Fc K mg) : PySem.W.notFirst K (cRun K) (.ref (cRun K)) = true := G.fx 146 (f := .nf "Run" "Run")
theorem Fc.nf_Run_Stay (G : Fc K mg) : PySem.W.notFirst K (cRun K) (.ref (cStay K)) = true := G.fx 147 (f := .nf "Run" "Stay")
theorem Fc.nf_Stay_Run (G : Fc K mg) : PySem.W.notFirst K (cStay K) (.ref (cRun K)) = true := G.fx 148 (f := .nf "Stay" "Run")
theorem Fc.nf_Stay_Stay (G : Fc K mg) : PySem.W.notFirst K (cStay K) (.ref (cStay K)) = true := G.fx 149 (f := .nf "Stay" "Stay")
theorem Fc.sf_Table (G : Fc K mg) : PySem.W.selfFirst K (cTable K) = true := G.fx 150 (f := .sf "Table")
theorem Fc.sf_Pauses (G : Fc K mg) : PySem.W.selfFirst K (cPauses K) = true := G.fx 151 (f := .sf "Pauses")
theorem Fc.fi_Table_getitem (G : Fc K mg) : PySem.W.fnIn K (f_Table_getitem K) = true := G.fx 152 (f := .fni "Table" "__getitem__")
theorem Fc.fi_Pauses_getitem (G : Fc K mg) : PySem.W.fnIn K (f_Pauses_getitem K) = true := G.fx 153 (f := .fni "Pauses" "__getitem__")
theorem Fc.k_Day_Day (G : Fc K mg) : PySem.W.kitOne K (.ref (cDay K)) (.ref (cDay K)) = some true := of_decide_eq_true (G.fx 154 (f := .kit "Day" "Day"))
theorem Fc.k_Table_Table (G : Fc K mg) : PySem.W.kitOne K (.ref (cTable K)) (.ref (cTable K)) = some true := of_decide_eq_true (G.fx 155 (f := .kit "Table" "Table"))
theorem Fc.k_Pauses_Pauses (G : Fc K mg) : PySem.W.kitOne K (.ref (cPauses K)) (.ref (cPauses K)) = some true := of_decide_eq_true (G.fx 156 (f := .kit "Pauses" "Pauses"))
theorem Fc.k_Run_Trip (G : Fc K mg) : PySem.W.kitOne K (.ref (cRun K)) (.ref (cTrip K)) = some true := of_decide_eq_true (G.fx 157 (f := .kit "Run" "Trip"))
theorem Fc.k_Stay_Trip (G : Fc K mg) : PySem.W.kitOne K (.ref (cStay K)) (.ref (cTrip K)) = some true := of_decide_eq_true (G.fx 158 (f := .kit "Stay" "Trip"))
theorem Fc.st_Pauses_of (G : Fc K mg) : SMet K (cPauses K) "of" (He.ma K (He.ga K "Pauses") "of") (f_Pauses_of K) := smet_ok (C := "Pauses") (m := "of") (G.fx 159 (f := .smet "Pauses" "of"))
theorem Fc.st_Pauses_read (G : Fc K mg) : SMet K (cPauses K) "read" (He.ma K (He.ga K "Pauses") "read") (f_Pauses_read K) := smet_ok (C := "Pauses") (m := "read") (G.fx 160 (f := .smet "Pauses" "read"))
theorem Fc.st_Table_of (G : Fc K mg) : SMet K (cTable K) "of" (He.ma K (He.ga K "Table") "of") (f_Table_of K) := smet_ok (C := "Table") (m := "of") (G.fx 161 (f := .smet "Table" "of"))
theorem Fc.st_Trip_read (G : Fc K mg) : SMet K (cTrip K) "read" (He.ma K (He.ga K "Trip") "read") (f_Trip_read K) := smet_ok (C := "Trip") (m := "read") (G.fx 162 (f := .smet "Trip" "read"))
theorem Fc.su_Run (G : Fc K mg) : SupC K (cRun K) (cRun K) (f_Trip_init K) := supc_ok (C := "Run") (D := "Run") (o := "Trip") (G.fx 163 (f := .supc "Run" "Run" "Trip"))
theorem Fc.su_Stay (G : Fc K mg) : SupC K (cStay K) (cStay K) (f_Trip_init K) := supc_ok (C := "Stay") (D := "Stay") (o := "Trip") (G.fx 164 (f := .supc "Stay" "Stay" "Trip"))
theorem Fc.dig (G : Fc K mg) : PySem.W.nsOkIn K cStatics = true ∧ PySem.W.nsIn K cStatics "sys.int_max_str_digits" = some none := let h := He.ba (show (PySem.W.nsOkIn K cStatics && He.eqO (PySem.W.nsIn K cStatics "sys.int_max_str_digits") (some none)) = true from G.fx 165 (f := .dig)); ⟨h.1, He.eqO_ok h.2⟩
theorem Fc.d_is_integer (G : Fc K mg) : ∃ fd, FunD K "is_integer" "is_integer" (defArgs s_is_integer) (defBody s_is_integer) (defScope s_is_integer) [] [] (f_is_integer K) fd := G.def_ 0 (d := K22.d_is_integer)
theorem Fc.d_is_between (G : Fc K mg) : ∃ fd, FunD K "is_between" "is_between" (defArgs s_is_between) (defBody s_is_between) (defScope s_is_between) [] [] (f_is_between K) fd := G.def_ 1 (d := K22.d_is_between)
theorem Fc.d_is_number (G : Fc K mg) : ∃ fd, FunD K "is_number" "is_number" (defArgs s_is_number) (defBody s_is_number) (defScope s_is_number) [] [] (f_is_number K) fd := G.def_ 2 (d := K22.d_is_number)
theorem Fc.d_is_name (G : Fc K mg) : ∃ fd, FunD K "is_name" "is_name" (defArgs s_is_name) (defBody s_is_name) (defScope s_is_name) [] [] (f_is_name K) fd := G.def_ 3 (d := K22.d_is_name)
theorem Fc.d_is_row (G : Fc K mg) : ∃ fd, FunD K "is_row" "is_row" (defArgs s_is_row) (defBody s_is_row) (defScope s_is_row) [] [] (f_is_row K) fd := G.def_ 4 (d := K22.d_is_row)
theorem Fc.d_number_in (G : Fc K mg) : ∃ fd, FunD K "number_in" "number_in" (defArgs s_number_in) (defBody s_number_in) (defScope s_number_in) [] [] (f_number_in K) fd := G.def_ 5 (d := K22.d_number_in)
theorem Fc.d_trip_in (G : Fc K mg) : ∃ fd, FunD K "trip_in" "trip_in" (defArgs s_trip_in) (defBody s_trip_in) (defScope s_trip_in) [.str "", .int 1000000000000] [] (f_trip_in K) fd := G.def_ 6 (d := K22.d_trip_in)
theorem Fc.d_in_order (G : Fc K mg) : ∃ fd, FunD K "in_order" "in_order" (defArgs s_in_order) (defBody s_in_order) (defScope s_in_order) [] [] (f_in_order K) fd := G.def_ 7 (d := K22.d_in_order)
theorem Fc.d_need_all_trips (G : Fc K mg) : ∃ fd, FunD K "need_all_trips" "need_all_trips" (defArgs s_need_all_trips) (defBody s_need_all_trips) (defScope s_need_all_trips) [] [] (f_need_all_trips K) fd := G.def_ 8 (d := K22.d_need_all_trips)
theorem Fc.d_places_of (G : Fc K mg) : ∃ fd, FunD K "places_of" "places_of" (defArgs s_places_of) (defBody s_places_of) (defScope s_places_of) [] [] (f_places_of K) fd := G.def_ 9 (d := K22.d_places_of)
theorem Fc.d_need_few (G : Fc K mg) : ∃ fd, FunD K "need_few" "need_few" (defArgs s_need_few) (defBody s_need_few) (defScope s_need_few) [] [] (f_need_few K) fd := G.def_ 10 (d := K22.d_need_few)
theorem Fc.d_unbalanced (G : Fc K mg) : ∃ fd, FunD K "unbalanced" "unbalanced" (defArgs s_unbalanced) (defBody s_unbalanced) (defScope s_unbalanced) [] [] (f_unbalanced K) fd := G.def_ 11 (d := K22.d_unbalanced)
theorem Fc.d_need_names_alone (G : Fc K mg) : ∃ fd, FunD K "need_names_alone" "need_names_alone" (defArgs s_need_names_alone) (defBody s_need_names_alone) (defScope s_need_names_alone) [] [] (f_need_names_alone K) fd := G.def_ 12 (d := K22.d_need_names_alone)
theorem Fc.d_law_pen (G : Fc K mg) : ∃ fd, FunD K "_law_pen" "_law_pen" (defArgs s_law_pen) (defBody s_law_pen) (defScope s_law_pen) [] [] (f_law_pen K) fd := G.def_ 13 (d := K22.d_law_pen)
theorem Fc.d_law_draw (G : Fc K mg) : ∃ fd, FunD K "_law_draw" "_law_draw" (defArgs s_law_draw) (defBody s_law_draw) (defScope s_law_draw) [] [] (f_law_draw K) fd := G.def_ 14 (d := K22.d_law_draw)
theorem Fc.d_law_pick (G : Fc K mg) : ∃ fd, FunD K "_law_pick" "_law_pick" (defArgs s_law_pick) (defBody s_law_pick) (defScope s_law_pick) [] [] (f_law_pick K) fd := G.def_ 15 (d := K22.d_law_pick)
theorem Fc.d_law_mixed (G : Fc K mg) : ∃ fd, FunD K "_law_mixed" "_law_mixed" (defArgs s_law_mixed) (defBody s_law_mixed) (defScope s_law_mixed) [] [] (f_law_mixed K) fd := G.def_ 16 (d := K22.d_law_mixed)
theorem Fc.d_law_titles (G : Fc K mg) : ∃ fd, FunD K "_law_titles" "_law_titles" (defArgs s_law_titles) (defBody s_law_titles) (defScope s_law_titles) [] [] (f_law_titles K) fd := G.def_ 17 (d := K22.d_law_titles)
theorem Fc.d_law_rows (G : Fc K mg) : ∃ fd, FunD K "_law_rows" "_law_rows" (defArgs s_law_rows) (defBody s_law_rows) (defScope s_law_rows) [] [] (f_law_rows K) fd := G.def_ 18 (d := K22.d_law_rows)
theorem Fc.d_law_trip (G : Fc K mg) : ∃ fd, FunD K "_law_trip" "_law_trip" (defArgs s_law_trip) (defBody s_law_trip) (defScope s_law_trip) [] [] (f_law_trip K) fd := G.def_ 19 (d := K22.d_law_trip)
theorem Fc.d_law_table (G : Fc K mg) : ∃ fd, FunD K "_law_table" "_law_table" (defArgs s_law_table) (defBody s_law_table) (defScope s_law_table) [] [] (f_law_table K) fd := G.def_ 20 (d := K22.d_law_table)
theorem Fc.d_law_trips_right (G : Fc K mg) : ∃ fd, FunD K "_law_trips_right" "_law_trips_right" (defArgs s_law_trips_right) (defBody s_law_trips_right) (defScope s_law_trips_right) [] [] (f_law_trips_right K) fd := G.def_ 21 (d := K22.d_law_trips_right)
theorem Fc.d_law_moved_right (G : Fc K mg) : ∃ fd, FunD K "_law_moved_right" "_law_moved_right" (defArgs s_law_moved_right) (defBody s_law_moved_right) (defScope s_law_moved_right) [] [] (f_law_moved_right K) fd := G.def_ 22 (d := K22.d_law_moved_right)
theorem Fc.d_law_scaled_right (G : Fc K mg) : ∃ fd, FunD K "_law_scaled_right" "_law_scaled_right" (defArgs s_law_scaled_right) (defBody s_law_scaled_right) (defScope s_law_scaled_right) [] [] (f_law_scaled_right K) fd := G.def_ 23 (d := K22.d_law_scaled_right)
theorem Fc.d_law_loops_right (G : Fc K mg) : ∃ fd, FunD K "_law_loops_right" "_law_loops_right" (defArgs s_law_loops_right) (defBody s_law_loops_right) (defScope s_law_loops_right) [] [] (f_law_loops_right K) fd := G.def_ 24 (d := K22.d_law_loops_right)
theorem Fc.d_law_pauses_right (G : Fc K mg) : ∃ fd, FunD K "_law_pauses_right" "_law_pauses_right" (defArgs s_law_pauses_right) (defBody s_law_pauses_right) (defScope s_law_pauses_right) [] [] (f_law_pauses_right K) fd := G.def_ 25 (d := K22.d_law_pauses_right)
theorem Fc.d_law (G : Fc K mg) : ∃ fd, FunD K "law" "law" (defArgs s_law) (defBody s_law) (defScope s_law) [] [] (f_law K) fd := G.def_ 26 (d := K22.d_law)
theorem Fc.d_Day_init (G : Fc K mg) : ∃ fd, FunD K "__init__" "Day.__init__" (defArgs s_Day_init) (defBody s_Day_init) (defScope s_Day_init) [] [] (f_Day_init K) fd := G.def_ 27 (d := K22.d_Day_init)
theorem Fc.d_Day_eq (G : Fc K mg) : ∃ fd, FunD K "__eq__" "Day.__eq__" (defArgs s_Day_eq) (defBody s_Day_eq) (defScope s_Day_eq) [] [] (f_Day_eq K) fd := G.def_ 28 (d := K22.d_Day_eq)
theorem Fc.d_Words_init (G : Fc K mg) : ∃ fd, FunD K "__init__" "Words.__init__" (defArgs s_Words_init) (defBody s_Words_init) (defScope s_Words_init) [] [] (f_Words_init K) fd := G.def_ 29 (d := K22.d_Words_init)
theorem Fc.d_Words_next_word (G : Fc K mg) : ∃ fd, FunD K "next_word" "Words.next_word" (defArgs s_Words_next_word) (defBody s_Words_next_word) (defScope s_Words_next_word) [] [] (f_Words_next_word K) fd := G.def_ 30 (d := K22.d_Words_next_word)
theorem Fc.d_Words_take_word (G : Fc K mg) : ∃ fd, FunD K "take_word" "Words.take_word" (defArgs s_Words_take_word) (defBody s_Words_take_word) (defScope s_Words_take_word) [] [] (f_Words_take_word K) fd := G.def_ 31 (d := K22.d_Words_take_word)
theorem Fc.d_Words_take_name (G : Fc K mg) : ∃ fd, FunD K "take_name" "Words.take_name" (defArgs s_Words_take_name) (defBody s_Words_take_name) (defScope s_Words_take_name) [.str ""] [] (f_Words_take_name K) fd := G.def_ 32 (d := K22.d_Words_take_name)
theorem Fc.d_Words_take_number (G : Fc K mg) : ∃ fd, FunD K "take_number" "Words.take_number" (defArgs s_Words_take_number) (defBody s_Words_take_number) (defScope s_Words_take_number) [] [] (f_Words_take_number K) fd := G.def_ 33 (d := K22.d_Words_take_number)
theorem Fc.d_Words_take_end (G : Fc K mg) : ∃ fd, FunD K "take_end" "Words.take_end" (defArgs s_Words_take_end) (defBody s_Words_take_end) (defScope s_Words_take_end) [] [] (f_Words_take_end K) fd := G.def_ 34 (d := K22.d_Words_take_end)
theorem Fc.d_Trip_init (G : Fc K mg) : ∃ fd, FunD K "__init__" "Trip.__init__" (defArgs s_Trip_init) (defBody s_Trip_init) (defScope s_Trip_init) [] [] (f_Trip_init K) fd := G.def_ 35 (d := K22.d_Trip_init)
theorem Fc.d_Trip_read (G : Fc K mg) : ∃ fd, FunD K "read" "Trip.read" (defArgs s_Trip_read) (defBody s_Trip_read) (defScope s_Trip_read) [] [] (f_Trip_read K) fd := G.def_ 36 (d := K22.d_Trip_read)
theorem Fc.d_Trip_lt (G : Fc K mg) : ∃ fd, FunD K "__lt__" "Trip.__lt__" (defArgs s_Trip_lt) (defBody s_Trip_lt) (defScope s_Trip_lt) [] [] (f_Trip_lt K) fd := G.def_ 37 (d := K22.d_Trip_lt)
theorem Fc.d_Trip_le (G : Fc K mg) : ∃ fd, FunD K "__le__" "Trip.__le__" (defArgs s_Trip_le) (defBody s_Trip_le) (defScope s_Trip_le) [] [] (f_Trip_le K) fd := G.def_ 38 (d := K22.d_Trip_le)
theorem Fc.d_Trip_eq (G : Fc K mg) : ∃ fd, FunD K "__eq__" "Trip.__eq__" (defArgs s_Trip_eq) (defBody s_Trip_eq) (defScope s_Trip_eq) [] [] (f_Trip_eq K) fd := G.def_ 39 (d := K22.d_Trip_eq)
theorem Fc.d_Trip_str (G : Fc K mg) : ∃ fd, FunD K "__str__" "Trip.__str__" (defArgs s_Trip_str) (defBody s_Trip_str) (defScope s_Trip_str) [] [] (f_Trip_str K) fd := G.def_ 40 (d := K22.d_Trip_str)
theorem Fc.d_Run_timed (G : Fc K mg) : ∃ fd, FunD K "timed" "Run.timed" (defArgs s_Run_timed) (defBody s_Run_timed) (defScope s_Run_timed) [] [] (f_Run_timed K) fd := G.def_ 41 (d := K22.d_Run_timed)
theorem Fc.d_Run_str (G : Fc K mg) : ∃ fd, FunD K "__str__" "Run.__str__" (defArgs s_Run_str) (defBody s_Run_str) (defScope s_Run_str) [] [] (f_Run_str K) fd := G.def_ 42 (d := K22.d_Run_str)
theorem Fc.d_Stay_timed (G : Fc K mg) : ∃ fd, FunD K "timed" "Stay.timed" (defArgs s_Stay_timed) (defBody s_Stay_timed) (defScope s_Stay_timed) [] [] (f_Stay_timed K) fd := G.def_ 43 (d := K22.d_Stay_timed)
theorem Fc.d_Table_init (G : Fc K mg) : ∃ fd, FunD K "__init__" "Table.__init__" (defArgs s_Table_init) (defBody s_Table_init) (defScope s_Table_init) [] [] (f_Table_init K) fd := G.def_ 44 (d := K22.d_Table_init)
theorem Fc.d_Table_of (G : Fc K mg) : ∃ fd, FunD K "of" "Table.of" (defArgs s_Table_of) (defBody s_Table_of) (defScope s_Table_of) [] [] (f_Table_of K) fd := G.def_ 45 (d := K22.d_Table_of)
theorem Fc.d_Table_between (G : Fc K mg) : ∃ fd, FunD K "between" "Table.between" (defArgs s_Table_between) (defBody s_Table_between) (defScope s_Table_between) [] [] (f_Table_between K) fd := G.def_ 46 (d := K22.d_Table_between)
theorem Fc.d_Table_with_trips (G : Fc K mg) : ∃ fd, FunD K "with_trips" "Table.with_trips" (defArgs s_Table_with_trips) (defBody s_Table_with_trips) (defScope s_Table_with_trips) [] [] (f_Table_with_trips K) fd := G.def_ 47 (d := K22.d_Table_with_trips)
theorem Fc.d_Table_need_names (G : Fc K mg) : ∃ fd, FunD K "need_names" "Table.need_names" (defArgs s_Table_need_names) (defBody s_Table_need_names) (defScope s_Table_need_names) [] [] (f_Table_need_names K) fd := G.def_ 48 (d := K22.d_Table_need_names)
theorem Fc.d_Table_without (G : Fc K mg) : ∃ fd, FunD K "without" "Table.without" (defArgs s_Table_without) (defBody s_Table_without) (defScope s_Table_without) [] [] (f_Table_without K) fd := G.def_ 49 (d := K22.d_Table_without)
theorem Fc.d_Table_moved (G : Fc K mg) : ∃ fd, FunD K "moved" "Table.moved" (defArgs s_Table_moved) (defBody s_Table_moved) (defScope s_Table_moved) [] [] (f_Table_moved K) fd := G.def_ 50 (d := K22.d_Table_moved)
theorem Fc.d_Table_scaled (G : Fc K mg) : ∃ fd, FunD K "scaled" "Table.scaled" (defArgs s_Table_scaled) (defBody s_Table_scaled) (defScope s_Table_scaled) [] [] (f_Table_scaled K) fd := G.def_ 51 (d := K22.d_Table_scaled)
theorem Fc.d_Table_getitem (G : Fc K mg) : ∃ fd, FunD K "__getitem__" "Table.__getitem__" (defArgs s_Table_getitem) (defBody s_Table_getitem) (defScope s_Table_getitem) [] [] (f_Table_getitem K) fd := G.def_ 52 (d := K22.d_Table_getitem)
theorem Fc.d_Table_contains (G : Fc K mg) : ∃ fd, FunD K "__contains__" "Table.__contains__" (defArgs s_Table_contains) (defBody s_Table_contains) (defScope s_Table_contains) [] [] (f_Table_contains K) fd := G.def_ 53 (d := K22.d_Table_contains)
theorem Fc.d_Table_iter (G : Fc K mg) : ∃ fd, FunD K "__iter__" "Table.__iter__" (defArgs s_Table_iter) (defBody s_Table_iter) (defScope s_Table_iter) [] [] (f_Table_iter K) fd := G.def_ 54 (d := K22.d_Table_iter)
theorem Fc.d_Table_len (G : Fc K mg) : ∃ fd, FunD K "__len__" "Table.__len__" (defArgs s_Table_len) (defBody s_Table_len) (defScope s_Table_len) [] [] (f_Table_len K) fd := G.def_ 55 (d := K22.d_Table_len)
theorem Fc.d_Table_add (G : Fc K mg) : ∃ fd, FunD K "__add__" "Table.__add__" (defArgs s_Table_add) (defBody s_Table_add) (defScope s_Table_add) [] [] (f_Table_add K) fd := G.def_ 56 (d := K22.d_Table_add)
theorem Fc.d_Table_eq (G : Fc K mg) : ∃ fd, FunD K "__eq__" "Table.__eq__" (defArgs s_Table_eq) (defBody s_Table_eq) (defScope s_Table_eq) [] [] (f_Table_eq K) fd := G.def_ 57 (d := K22.d_Table_eq)
theorem Fc.d_Pauses_init (G : Fc K mg) : ∃ fd, FunD K "__init__" "Pauses.__init__" (defArgs s_Pauses_init) (defBody s_Pauses_init) (defScope s_Pauses_init) [] [] (f_Pauses_init K) fd := G.def_ 58 (d := K22.d_Pauses_init)
theorem Fc.d_Pauses_of (G : Fc K mg) : ∃ fd, FunD K "of" "Pauses.of" (defArgs s_Pauses_of) (defBody s_Pauses_of) (defScope s_Pauses_of) [] [] (f_Pauses_of K) fd := G.def_ 59 (d := K22.d_Pauses_of)
theorem Fc.d_Pauses_read (G : Fc K mg) : ∃ fd, FunD K "read" "Pauses.read" (defArgs s_Pauses_read) (defBody s_Pauses_read) (defScope s_Pauses_read) [] [] (f_Pauses_read K) fd := G.def_ 60 (d := K22.d_Pauses_read)
theorem Fc.d_Pauses_put (G : Fc K mg) : ∃ fd, FunD K "put" "Pauses.put" (defArgs s_Pauses_put) (defBody s_Pauses_put) (defScope s_Pauses_put) [] [] (f_Pauses_put K) fd := G.def_ 61 (d := K22.d_Pauses_put)
theorem Fc.d_Pauses_need_like (G : Fc K mg) : ∃ fd, FunD K "need_like" "Pauses.need_like" (defArgs s_Pauses_need_like) (defBody s_Pauses_need_like) (defScope s_Pauses_need_like) [] [] (f_Pauses_need_like K) fd := G.def_ 62 (d := K22.d_Pauses_need_like)
theorem Fc.d_Pauses_places_with (G : Fc K mg) : ∃ fd, FunD K "places_with" "Pauses.places_with" (defArgs s_Pauses_places_with) (defBody s_Pauses_places_with) (defScope s_Pauses_places_with) [] [] (f_Pauses_places_with K) fd := G.def_ 63 (d := K22.d_Pauses_places_with)
theorem Fc.d_Pauses_getitem (G : Fc K mg) : ∃ fd, FunD K "__getitem__" "Pauses.__getitem__" (defArgs s_Pauses_getitem) (defBody s_Pauses_getitem) (defScope s_Pauses_getitem) [] [] (f_Pauses_getitem K) fd := G.def_ 64 (d := K22.d_Pauses_getitem)
theorem Fc.d_Pauses_add (G : Fc K mg) : ∃ fd, FunD K "__add__" "Pauses.__add__" (defArgs s_Pauses_add) (defBody s_Pauses_add) (defScope s_Pauses_add) [] [] (f_Pauses_add K) fd := G.def_ 65 (d := K22.d_Pauses_add)
theorem Fc.d_Pauses_or (G : Fc K mg) : ∃ fd, FunD K "__or__" "Pauses.__or__" (defArgs s_Pauses_or) (defBody s_Pauses_or) (defScope s_Pauses_or) [] [] (f_Pauses_or K) fd := G.def_ 66 (d := K22.d_Pauses_or)
theorem Fc.d_Pauses_and (G : Fc K mg) : ∃ fd, FunD K "__and__" "Pauses.__and__" (defArgs s_Pauses_and) (defBody s_Pauses_and) (defScope s_Pauses_and) [] [] (f_Pauses_and K) fd := G.def_ 67 (d := K22.d_Pauses_and)
theorem Fc.d_Pauses_le (G : Fc K mg) : ∃ fd, FunD K "__le__" "Pauses.__le__" (defArgs s_Pauses_le) (defBody s_Pauses_le) (defScope s_Pauses_le) [] [] (f_Pauses_le K) fd := G.def_ 68 (d := K22.d_Pauses_le)
theorem Fc.d_Pauses_lt (G : Fc K mg) : ∃ fd, FunD K "__lt__" "Pauses.__lt__" (defArgs s_Pauses_lt) (defBody s_Pauses_lt) (defScope s_Pauses_lt) [] [] (f_Pauses_lt K) fd := G.def_ 69 (d := K22.d_Pauses_lt)
theorem Fc.d_Pauses_ge (G : Fc K mg) : ∃ fd, FunD K "__ge__" "Pauses.__ge__" (defArgs s_Pauses_ge) (defBody s_Pauses_ge) (defScope s_Pauses_ge) [] [] (f_Pauses_ge K) fd := G.def_ 70 (d := K22.d_Pauses_ge)
theorem Fc.d_Pauses_eq (G : Fc K mg) : ∃ fd, FunD K "__eq__" "Pauses.__eq__" (defArgs s_Pauses_eq) (defBody s_Pauses_eq) (defScope s_Pauses_eq) [] [] (f_Pauses_eq K) fd := G.def_ 71 (d := K22.d_Pauses_eq)
theorem Fc.d_Pauses_str (G : Fc K mg) : ∃ fd, FunD K "__str__" "Pauses.__str__" (defArgs s_Pauses_str) (defBody s_Pauses_str) (defScope s_Pauses_str) [] [] (f_Pauses_str K) fd := G.def_ 72 (d := K22.d_Pauses_str)
theorem Fc.e_Run_init (G : Fc K mg) : SupK R.prog K "__init__" "Run.__init__" (defArgs s_Run_init) (defBody s_Run_init) (defScope s_Run_init) (f_Run_init K) (K22.e_Run_init.cc K) (cRun K) := G.sup_ 0 (d := K22.e_Run_init)
theorem Fc.e_Stay_init (G : Fc K mg) : SupK R.prog K "__init__" "Stay.__init__" (defArgs s_Stay_init) (defBody s_Stay_init) (defScope s_Stay_init) (f_Stay_init K) (K22.e_Stay_init.cc K) (cStay K) := G.sup_ 1 (d := K22.e_Stay_init)
end
end K22

set_option Elab.async false
set_option linter.all false
set_option maxRecDepth 100000
set_option maxHeartbeats 0
/-! H0: the head's run. -/
namespace K22
open PySem PySem.Spec PyProof.Rows L2
def loose1 : List Str := ["_wall", "MOST_NUMBER", "LETTERS", "is_integer", "is_between", "is_number", "is_moment", "is_name", "is_row", "number_in", "TurnError", "BadInput", "Refused", "BadDay", "BadName", "BadNumber", "BadTrip", "BadTable", "BadPauses", "BadAsk", "BadText", "NoTrip", "Twice", "OutOfDay", "Unbalanced", "Unlike", "TooMany", "MOST_LENGTH", "long_by", "Day", "Words"]
def loose2 : List Str := ["Trip", "Paused", "Run", "Stay", "trip_in", "in_order", "MOST_TRIPS", "MOST_PLACES", "need_all_trips", "places_of", "need_few", "unbalanced", "Table", "need_names_alone", "Pauses", "_law_pen", "_law_draw", "_law_pick", "_law_mixed", "_law_titles", "_law_rows", "_law_trip", "_law_table", "_law_trips_right", "_law_moved_right", "_law_scaled_right", "_law_loops_right", "_law_pauses_right"]
def loose : List Str := loose1 ++ loose2
theorem run (w : World) : HandSHeadRun.RunEq R (PySem.W.view R.prog [66]) hk ob 12000 loose w := by
  intro os
  kernel_rfl
end K22

set_option Elab.async false
set_option linter.all false
set_option maxRecDepth 100000
set_option maxHeartbeats 4000000
/-! R6: a def's promise from its text. -/
namespace K22
open PySem PySem.Spec PyProof.Rows L2
section
variable {P : Program} {w : World} {K : PySem.W.Frag} {mg : Str → Option Value} {base : Heap} {x qual : Str} {st : Stmt} {f : Addr} {N ps : List Str} {k : Nat} {sp : Sp} {dvs : List V}
abbrev BindP (x qual : Str) (st : Stmt) (ps : List Str) : Prop := ∀ (kV doc pm : Value) (an : Option Addr) (cdv ct : Value) (us : List Value), us.length = ps.length → bindArgs (PySem.W.fnOf x qual (defArgs st) (defBody st) (defScope st) .none kV doc pm an cdv ct) ⟨us, []⟩ = pure (ps.zip us)
theorem fnA (F : ∃ fd, FunD K x qual (defArgs st) (defBody st) (defScope st) [] [] f fd) (S : FnScope N ps (defScope st)) (hb : BindP x qual st ps) (len : ∀ vs H Q, sp vs H Q E0 → vs.length = ps.length)
    (hE : ∀ vs H Q E, sp vs H Q E → sp vs H Q E0)
    (hbody : ∀ (cdv : Value) (A : Around) (outer : List Env) (s : Shared) (H : Hp) (vs : List V) (Q : VK), Room k (A.deeper (envOfC qual (defScope st) s.heap.objs.size f cdv)) → sp vs H Q E0 →
      ∃ t, PSs (cxOf CX0 P w K mg base N qual (defScope st) f cdv A outer s H E0).nox (defBody st) t ∧ t { nx := fun _ H' => Q .non H', rt := Q } (start N vs) H) : Fn P w K mg base (k + 1) f sp := by
  obtain ⟨fd, F⟩ := F
  obtain ⟨oc, od, dV, kV, doc, pm, an, cdv, ct, osl, rfl, lk, hcd, hD, _⟩ := F.ex
  rcases hD with ⟨_, rfl⟩ | ⟨hne, _⟩
  · intro A outer s H us vs Q E hr e0 r hsp
    have h0 := hE _ _ _ _ hsp
    have hl := len _ _ _ h0
    refine codeAny_mono (run_of (CX := CX0) (E := E0) lk hcd S hl hr e0 (BindsTo.of_eq (hb _ _ _ _ _ _ us (by rw [← r.length]; exact hl))) r fun hr' => ?_) fun r s' z => z
    obtain ⟨t, ht, q⟩ := hbody cdv A outer s H vs Q hr' h0
    exact ⟨t, ht.nox, q⟩
  · exact absurd rfl hne
/-- n values are written, the defaults behind the first j fill up -/
theorem fnB (n j : Nat) (F : ∃ fd, FunD K x qual (defArgs st) (defBody st) (defScope st) dvs [] f fd) (S : FnScope N ps (defScope st)) (hd : dvs ≠ []) (hn : n + (dvs.length - j) = ps.length)
    (hb : ∀ (T : Addr) (kV doc pm : Value) (an : Option Addr) (cdv ct : Value) (us its : List Value), us.length = n → its.length = dvs.length →
      ∃ k, bindArgs (PySem.W.fnOf x qual (defArgs st) (defBody st) (defScope st) (.ref T) kV doc pm an cdv ct) ⟨us, []⟩ = seqItems? (.ref T) >>= k ∧ k (some its.toArray) = pure (ps.zip (us ++ its.drop j)))
    (hE : ∀ vs H Q E, sp vs H Q E → sp vs H Q E0)
    (hbody : ∀ (cdv : Value) (A : Around) (outer : List Env) (s : Shared) (H : Hp) (vs : List V) (Q : VK), Room k (A.deeper (envOfC qual (defScope st) s.heap.objs.size f cdv)) → sp vs H Q E0 →
      ∃ t, PSs (cxOf CX0 P w K mg base N qual (defScope st) f cdv A outer s H E0).nox (defBody st) t ∧ t { nx := fun _ H' => Q .non H', rt := Q } (start N vs) H) :
    Fn P w K mg base (k + 1) f (fun vs H Q E => vs.length = n ∧ sp (vs ++ dvs.drop j) H Q E) := by
  obtain ⟨fd, F⟩ := F
  obtain ⟨ds, rd, bd⟩ := F.binds1 (ps := ps) n j hd hn hb
  obtain ⟨oc, od, dV, kV, doc, pm, an, cdv, ct, osl, rfl, lk, hcd, hD, _⟩ := F.ex
  intro A outer s H us vs Q E hr e0 r hsp
  obtain ⟨hl, hsp⟩ := hsp
  have h0 := hE _ _ _ _ hsp
  have r2 := r.append rd
  have KX : K.In s.heap := e0.mod.kin.keeps fun b o e => (e0.bs b o e).1
  have l2 : (us ++ ds).length = ps.length := by
    rw [List.length_append, ← r.length, hl, ← rd.length, List.length_drop]
    exact hn
  refine codeAny_mono (run_of (CX := CX0) (E := E0) lk hcd S (by rw [r2.length]; exact l2) hr e0 (bd s us KX l2) r2 fun hr' => ?_) fun r s' z => z
  obtain ⟨t, ht, q⟩ := hbody cdv A outer s H _ Q hr' h0
  exact ⟨t, ht.nox, q⟩
/-- a def with *names at its end -/
theorem fnS {pv : Str} (F : ∃ fd, FunD K x qual (defArgs st) (defBody st) (defScope st) [] [] f fd) (S : FnScope N (ps ++ [pv]) (defScope st))
    (hb : ∀ (kV doc pm : Value) (an : Option Addr) (cdv ct : Value) (us rest : List Value), us.length = ps.length → bindArgs (PySem.W.fnOf x qual (defArgs st) (defBody st) (defScope st) .none kV doc pm an cdv ct) ⟨us ++ rest, []⟩ = (newTuple rest >>= fun t => pure (ps.zip us ++ [(pv, t)])))
    (hE : ∀ vs H Q E, sp vs H Q E → sp vs H Q E0)
    (hbody : ∀ (cdv : Value) (A : Around) (outer : List Env) (s : Shared) (H : Hp) (vs : List V) (Q : VK), Room k (A.deeper (envOfC qual (defScope st) s.heap.objs.size f cdv)) → sp vs H Q E0 →
      ∃ t, PSs (cxOf CX0 P w K mg base N qual (defScope st) f cdv A outer s H E0).nox (defBody st) t ∧ t { nx := fun _ H' => Q .non H', rt := Q } (start N vs) H) :
    Fn P w K mg base (k + 1) f (fun vs H Q E => ∃ ws rest, vs = ws ++ rest ∧ ws.length = ps.length ∧ rest.length ≤ sizeLine ∧ ∀ p, H p = Option.none → sp (ws ++ [V.ref p]) (upd H p (.tup rest)) Q E) := by
  obtain ⟨fd, F⟩ := F
  obtain ⟨oc, od, dV, kV, doc, pm, an, cdv, ct, osl, rfl, lk, hcd, hD, _⟩ := F.ex
  rcases hD with ⟨_, rfl⟩ | ⟨hne, _⟩
  · have key := StX.fn_star (CX := CX0) (P := P) (w := w) (mg := mg) (base := base) (k := k) (sp := fun vs H Q _ => sp vs H Q E0) lk hcd S StX.cxUp_none (fun us rest hl => hb _ _ _ _ _ _ us rest hl) fun A outer s H vs Q E hr h => by
      obtain ⟨t, ht, q⟩ := hbody cdv A outer s H vs Q hr h
      exact ⟨t, ht.nox, q⟩
    intro A outer s H us vs Q E hr e0 r hsp
    obtain ⟨ws, rest, ev, hl, hz, hq⟩ := hsp
    exact key A outer s H us vs Q E hr e0 r ⟨ws, rest, ev, hl, hz, fun p hp => hE _ _ _ _ (hq p hp)⟩
  · exact absurd rfl hne
end
end K22

set_option Elab.async false
set_option linter.all false
set_option maxRecDepth 100000
set_option maxHeartbeats 4000000
/-! C1: the checks. -/
namespace K22
open PySem PySem.Spec PyProof.Rows L2
/-- a text of one to eight small letters -/
def nameOk (z : Str) : Bool := decide (1 ≤ z.length) && (decide (z.length ≤ 8) && z.cps.toList.all fun c => decide (97 ≤ c) && decide (c ≤ 122))
def digits (z : Str) : Bool := decide (1 ≤ z.length) && (decide (z.length ≤ 13) && z.cps.toList.all fun c => decide (48 ≤ c) && decide (c ≤ 57))
def spInt : Sp := fun vs H Q _ => ∃ i : Int, vs = [.int i] ∧ Q (.bl true) H
def spBetween : Sp := fun vs H Q _ => ∃ i a b : Int, vs = [.int i, .int a, .int b] ∧ Q (.bl (decide (a ≤ i ∧ i ≤ b))) H
def spNumber : Sp := fun vs H Q _ => ∃ i : Int, vs = [.int i] ∧ 0 ≤ i ∧ i ≤ 1000000000000 ∧ Q (.bl true) H
def spName : Sp := fun vs H Q _ => ∃ z : Str, vs = [.str z] ∧ nameOk z = true ∧ ∀ H', Same H H' → Q (.bl true) H'
section
variable {P : Program} {w : World} {K : PySem.W.Frag} {mg : Str → Option Value} {base : Heap}
theorem sc_is_integer : FnScope ["value"] ["value"] (defScope s_is_integer) := ⟨rfl, rfl, rfl, by decide +kernel, rfl, by decide +kernel, by decide +kernel⟩
theorem ok_is_integer (G : Fc K mg) : Fn P w K mg base 1 (f_is_integer K) spInt := by
  refine fnA G.d_is_integer sc_is_integer (fun _ _ _ _ _ _ us hl => match us, hl with | [_], _ => rfl) (fun vs H Q h => ?_) (fun vs H Q E h => h) (fun cdv A outer s H vs Q hr h => ?_)
  · obtain ⟨i, rfl, _⟩ := h
    rfl
  · obtain ⟨i, rfl, k⟩ := h
    refine ⟨_, pss_one (ps_ret (pe_and (pe_callB call_isi (by rfl) G.b_isinstance (by decide +kernel) (pa_cons (pv 0) (pa_cons (pe_bltn (v := .ty "int") (by rfl) G.b_int (by decide +kernel) rfl) pa_nil)))
      (pe_one (pe_not (pe_callB call_isi (by rfl) G.b_isinstance (by decide +kernel) (pa_cons (pv 0) (pa_cons (pe_bltn (v := .ty "bool") (by rfl) G.b_bool (by decide +kernel) rfl) pa_nil))))))), ?_⟩
    refine ⟨_, rfl, _, _, _, _, _, rfl, .ty "int", .base (.int i), kit_ty (r := true) (by decide +kernel), _, rfl, ?_⟩
    refine iteT ⟨_, rfl, _, _, _, _, _, rfl, .ty "bool", .base (.int i), kit_ty (r := false) (by decide +kernel), _, rfl, ?_⟩
    exact k
theorem sc_is_between : FnScope ["value", "low", "high"] ["value", "low", "high"] (defScope s_is_between) := ⟨rfl, rfl, rfl, by decide +kernel, rfl, by decide +kernel, by decide +kernel⟩
theorem ok_is_between (G : Fc K mg) : Fn P w K mg base 2 (f_is_between K) spBetween := by
  refine fnA G.d_is_between sc_is_between (fun _ _ _ _ _ _ us hl => match us, hl with | [_, _, _], _ => rfl) (fun vs H Q h => ?_) (fun vs H Q E h => h) (fun cdv A outer s H vs Q hr h => ?_)
  · obtain ⟨i, a, b, rfl, _⟩ := h
    rfl
  · obtain ⟨i, a, b, rfl, k⟩ := h
    refine ⟨_, pss_one (ps_ret (pe_and (pe_f (ok_is_integer G) hr G.g_is_integer G.d_is_integer.choose_spec.kp (pa_cons (pv 0) pa_nil)) (pe_one (pe_chain op_le op_le (pv 1) (pv 0) (pv 2))))), ?_⟩
    refine ⟨_, rfl, i, rfl, _, rfl, iteT ⟨_, rfl, _, rfl, _, _, rfl, rfl, _, rfl, ?_⟩⟩
    by_cases h1 : a ≤ i
    · rw [decide_eq_true h1]
      refine iteT ⟨_, rfl, _, _, rfl, rfl, ?_⟩
      have e : decide (a ≤ i ∧ i ≤ b) = decide (i ≤ b) := by simp [h1]
      rw [e] at k
      exact k
    · rw [decide_eq_false h1]
      refine iteF ?_
      have e : decide (a ≤ i ∧ i ≤ b) = false := by simp [h1]
      rw [e] at k
      exact k
theorem sc_is_number : FnScope ["value"] ["value"] (defScope s_is_number) := ⟨rfl, rfl, rfl, by decide +kernel, rfl, by decide +kernel, by decide +kernel⟩
theorem ok_is_number (G : Fc K mg) : Fn P w K mg base 3 (f_is_number K) spNumber := by
  refine fnA G.d_is_number sc_is_number (fun _ _ _ _ _ _ us hl => match us, hl with | [_], _ => rfl) (fun vs H Q h => ?_) (fun vs H Q E h => h) (fun cdv A outer s H vs Q hr h => ?_)
  · obtain ⟨i, rfl, _⟩ := h
    rfl
  · obtain ⟨i, rfl, h1, h2, k⟩ := h
    obtain ⟨t, ht⟩ := G.i_MOST_NUMBER
    refine ⟨_, pss_one (ps_ret (pe_f (ok_is_between G) hr G.g_is_between G.d_is_between.choose_spec.kp (pa_cons (pv 0) (pa_cons pe_int (pa_cons (pe_glob (v := .int 1000000000000) (by rfl) ht ⟨_, rfl⟩) pa_nil))))), ?_⟩
    refine ⟨_, rfl, i, 0, 1000000000000, rfl, ?_⟩
    have e : decide (0 ≤ i ∧ i ≤ 1000000000000) = true := decide_eq_true ⟨h1, h2⟩
    show Q (.bl (decide (0 ≤ i ∧ i ≤ 1000000000000))) H
    rw [e]
    exact k
/-- all([sign in z for sign in value]) -/
theorem allIn_read {X : Cx} {i : Nat} {g : TG} {ti : TE} {y z : Str} {σ : L2.St} {H : Hp} {Q : VK} (h0 : σ[i]? = some (some (.str y))) {vs : List Nat}
    (hg : ∀ (x : V) (H' : Hp), ∀ R : L2.St → Hp → Prop, (∀ σ2, σ2[i + 1]? = some (some x) → wipe σ2 vs = wipe σ vs → R σ2 H') → g x (wipe σ vs) H' R) (hall : y.cps.toList.all (fun c => decide (c ∈ z.cps.toList)) = true) (hsz : y.length ≤ 1000)
    (k : ∀ H', Same H H' → Q (.bl true) H') :
    tCB (rAll K) (tCons (tLc (iStr (tVar i)) g tYes (tOp (fun x y H Q => ∃ (c : Nat) (z : Str), x = .str ⟨#[c]⟩ ∧ y = .str z ∧ Q (.bl (decide (c ∈ z.cps.toList))) H) (tVar (i + 1)) (tC (.str z))) vs) tNil) σ H Q := by
  refine ⟨_, h0, y, rfl, fun D hD => ?_⟩
  refine lc_it (walk_str (z := y)) (fun n H' => Same H H' ∧ H' D = some (.lst ((List.replicate n true).map V.bl))) ⟨fun b o e => by rw [upd_ne (ne_of_none e hD)]; exact e, upd_same⟩ (fun _ _ _ _ => trivial) ?_ ?_
  · rintro n x H1 H2 hn ⟨sm, hd⟩ ⟨rfl, c, hc, rfl⟩
    refine hg _ _ _ fun σ2 h2 hw => ⟨hw, ?_⟩
    refine ⟨_, h2, c, z, rfl, rfl, ?_⟩
    have hm : c ∈ y.cps.toList := by
      rw [← Array.getElem?_toList] at hc
      exact List.mem_of_getElem? hc
    have e := List.all_eq_true.mp hall c hm
    rw [e]
    refine ⟨_, hd, ?_, fun b o e => ?_, ?_⟩
    · rw [List.length_map, List.length_replicate]
      have : y.cps.size = y.length := rfl
      exact small1000 (by omega)
    · rw [upd_ne (by rintro rfl; rw [hD] at e; cases e)]
      exact sm b o e
    · rw [upd_same, List.replicate_succ', List.map_append]
      rfl
  · rintro H1 ⟨sm, hd⟩
    refine ⟨D, List.replicate y.cps.size true, rfl, SqL.of hd, ?_⟩
    have e : (List.replicate y.cps.size true).all id = true := by simp
    rw [e]
    exact k H1 sm
theorem sc_is_name : FnScope ["value", "sign"] ["value"] (defScope s_is_name) := ⟨rfl, rfl, rfl, by decide +kernel, rfl, by decide +kernel, by decide +kernel⟩
theorem letters_in {c : Nat} (h : 97 ≤ c ∧ c ≤ 122) : c ∈ ("abcdefghijklmnopqrstuvwxyz" : Str).cps.toList := by
  have e : ∀ n, n < 26 → (n + 97) ∈ ("abcdefghijklmnopqrstuvwxyz" : Str).cps.toList := by decide +kernel
  have := e (c - 97) (by omega)
  rwa [show c - 97 + 97 = c by omega] at this
theorem ok_is_name (G : Fc K mg) : Fn P w K mg base 1 (f_is_name K) spName := by
  refine fnA G.d_is_name sc_is_name (fun _ _ _ _ _ _ us hl => match us, hl with | [_], _ => rfl) (fun vs H Q h => ?_) (fun vs H Q E h => h) (fun cdv A outer s H vs Q hr h => ?_)
  · obtain ⟨i, rfl, _⟩ := h
    rfl
  · obtain ⟨z, rfl, hz, k⟩ := h
    obtain ⟨t, ht⟩ := G.t_LETTERS
    have nd := sc_is_name.nd
    refine ⟨_, pss_cons (ps_if (PW.pt (pw_or (pt_not (pt_val (pe_callB call_isi (by rfl) G.b_isinstance (by decide +kernel) (pa_cons (pv 0) (pa_cons (pe_bltn (v := .ty "str") (by rfl) G.b_str (by decide +kernel) rfl) pa_nil)))))
        (pw_or1 (pt_not (pt_chain op_le op_le pe_int (pe_callB call_len_str (by rfl) G.b_len PySem.boot_len (pa_cons (pv 0) pa_nil)) pe_int))))) pss_never pss_nil)
      (pss_one (ps_ret (pe_callB (cr_all rfl) (by rfl) G.b_all (by decide +kernel) (pa_cons (pe_lc (own := [("sign", 1)]) (g := gName 1) (by rfl) nd (pi_str (pv 0)) (blkOk_by (own := [("sign", 1)]) (N := ["value", "sign"]) (sc := defScope s_is_name) (by decide +kernel))
        (fun _ _ _ _ _ => pg_name (i := 1) nd rfl (Or.inl rfl)) (fun _ _ _ _ _ => pts_nil) (fun _ _ _ _ _ => pe_cmpR op_in_sign (pv 1) (pe_glob (v := .str "abcdefghijklmnopqrstuvwxyz") (by rfl) ht ⟨_, rfl⟩) (by rfl))) pa_nil)))), ?_⟩
    unfold nameOk at hz
    rw [Bool.and_eq_true, Bool.and_eq_true, decide_eq_true_iff, decide_eq_true_iff] at hz
    obtain ⟨h1, h2, h3⟩ := hz
    refine ⟨_, rfl, _, _, _, _, _, rfl, .ty "str", .base (.str z), kit_ty (r := true) (by decide +kernel), _, rfl, iteF ⟨_, rfl, z, rfl, ?_, _, _, rfl, rfl, _, rfl, ?_⟩⟩
    · exact Nat.le_of_lt (small1000 (by omega))
    have e1 : decide ((1 : Int) ≤ (z.length : Int)) = true := decide_eq_true (by omega)
    have e2 : decide ((z.length : Int) ≤ 8) = true := decide_eq_true (by omega)
    rw [e1]
    refine iteT ⟨_, _, rfl, rfl, ?_⟩
    show ∃ k, V.bl (decide ((z.length : Int) ≤ 8)) = .bl k ∧ _
    rw [e2]
    refine ⟨_, rfl, iteF ?_⟩
    refine allIn_read (X := cxOf CX0 P w K mg base ["value", "sign"] "is_name" (defScope s_is_name) (f_is_name K) cdv A outer s H E0) (K := K) (i := 0) (ti := tVar 0) rfl (fun x H' R hR => hR _ rfl rfl) ?_ (by omega) k
    refine List.all_eq_true.mpr fun c hc => decide_eq_true (letters_in ?_)
    have := List.all_eq_true.mp h3 c hc
    rw [Bool.and_eq_true, decide_eq_true_iff, decide_eq_true_iff] at this
    exact this
end
end K22

set_option Elab.async false
set_option linter.all false
set_option maxRecDepth 100000
set_option maxHeartbeats 4000000
/-! E1: what a reading evaluates to, by predicates that stay true while the heap grows. -/
namespace K22
open PySem PySem.Spec PyProof.Rows L2
abbrev VQ : Type := V → Hp → Prop
class Mono (Φ : VQ) : Prop where
  mono : ∀ {v : V} {H H' : Hp}, Same H H' → Φ v H → Φ v H'
/-- all but lists is kept; a list stays a list -/
def NL (H H' : Hp) : Prop := ∀ a o, H a = some o → H' a = some o ∨ ∃ xs ys, o = .lst xs ∧ H' a = some (.lst ys)
theorem NL.refl (H : Hp) : NL H H := fun _ _ h => .inl h
theorem NL.trans {H H1 H2 : Hp} (e : NL H H1) (e2 : NL H1 H2) : NL H H2 := fun a o h => by
  rcases e a o h with h1 | ⟨xs, ys, eo, h1⟩
  · exact e2 a o h1
  · rcases e2 a _ h1 with h2 | ⟨xs', zs, _, h2⟩
    · exact .inr ⟨xs, ys, eo, h2⟩
    · exact .inr ⟨xs, zs, eo, h2⟩
theorem nl_same {H H' : Hp} (e : Same H H') : NL H H' := fun a o h => .inl (e a o h)
theorem nl_put {H : Hp} {a : Addr} {xs ys : List V} (h : H a = some (.lst xs)) : NL H (upd H a (.lst ys)) := fun b o hb => by
  by_cases e : b = a
  · subst e
    rw [h] at hb
    cases hb
    exact .inr ⟨xs, ys, rfl, upd_same⟩
  · rw [upd_ne e]
    exact .inl hb
theorem NL.ins {H H' : Hp} (e : NL H H') {a C dx : Addr} {fs : List (Str × V)} (h : H a = some (.ins C dx fs)) : H' a = some (.ins C dx fs) := by
  rcases e a _ h with h | ⟨_, _, z, _⟩
  · exact h
  · cases z
theorem NL.tup {H H' : Hp} (e : NL H H') {a : Addr} {xs : List V} (h : H a = some (.tup xs)) : H' a = some (.tup xs) := by
  rcases e a _ h with h | ⟨_, _, z, _⟩
  · exact h
  · cases z
theorem NL.dK {H H' : Hp} (e : NL H H') {a : Addr} {xs : List (Key × V)} (h : H a = some (.dK xs)) : H' a = some (.dK xs) := by
  rcases e a _ h with h | ⟨_, _, z, _⟩
  · exact h
  · cases z
/-- true whatever lists change -/
class Stab (Φ : VQ) : Prop where
  st : ∀ {v : V} {H H' : Hp}, NL H H' → Φ v H → Φ v H'
instance {Φ : VQ} [s : Stab Φ] : Mono Φ := ⟨fun e h => s.st (nl_same e) h⟩
def is (v : V) : VQ := fun x _ => x = v
instance {v : V} : Stab (is v) := ⟨fun _ h => h⟩
theorem same_new {H : Hp} {p : Addr} {o : HO} (h : H p = none) : Same H (upd H p o) := fun a u e => by
  rw [upd_ne (ne_of_none e h)]
  exact e
theorem same_mut {H H' : Hp} {p : Addr} {o : HO} (e : Same H H') (h : H p = none) : Same H (upd H' p o) := fun a u ha => by
  rw [upd_ne (ne_of_none ha h)]
  exact e a u ha
/-- what an expression evaluates to from H on, H known -/
def EvP (te : TE) (σ : L2.St) (H : Hp) (Φ : VQ) : Prop := ∀ H1, Same H H1 → ∀ Q : VK, (∀ v H2, Same H1 H2 → Φ v H2 → Q v H2) → te σ H1 Q
def EtP (tt : TT) (σ : L2.St) (H : Hp) (b : Bool) : Prop := ∀ H1, Same H H1 → ∀ Q : Bool → Hp → Prop, (∀ H2, Same H1 H2 → Q b H2) → tt σ H1 Q
/-- values by predicates, one by one -/
inductive All2 : List VQ → List V → Hp → Prop where
  | nil {H : Hp} : All2 [] [] H
  | cons {Φ : VQ} {Φs : List VQ} {v : V} {vs : List V} {H : Hp} : Φ v H → All2 Φs vs H → All2 (Φ :: Φs) (v :: vs) H
class StabL (Φs : List VQ) : Prop where
  st : ∀ {vs : List V} {H H' : Hp}, NL H H' → All2 Φs vs H → All2 Φs vs H'
instance : StabL [] := ⟨fun _ h => by cases h; exact .nil⟩
instance {Φ : VQ} {Φs : List VQ} [m : Stab Φ] [ms : StabL Φs] : StabL (Φ :: Φs) := ⟨fun e h => by
  cases h with
  | cons h hs => exact .cons (m.st e h) (ms.st e hs)⟩
class MonoL (Φs : List VQ) : Prop where
  mono : ∀ {vs : List V} {H H' : Hp}, Same H H' → All2 Φs vs H → All2 Φs vs H'
instance : MonoL [] := ⟨fun _ h => by cases h; exact .nil⟩
instance {Φ : VQ} {Φs : List VQ} [m : Mono Φ] [ms : MonoL Φs] : MonoL (Φ :: Φs) := ⟨fun e h => by
  cases h with
  | cons h hs => exact .cons (m.mono e h) (ms.mono e hs)⟩
def EaP (ta : TA) (σ : L2.St) (H : Hp) (Φs : List VQ) : Prop := ∀ H1, Same H H1 → ∀ Q : List V → Hp → Prop, (∀ vs H2, Same H1 H2 → All2 Φs vs H2 → Q vs H2) → ta σ H1 Q
/-- a two-place operation; a call's promise -/
def RP (r : R2) (A B : VQ) (H : Hp) (C : VQ) : Prop := ∀ H1, Same H H1 → ∀ x y, A x H1 → B y H1 → ∀ Q : VK, (∀ v H2, Same H1 H2 → C v H2 → Q v H2) → r x y H1 Q
def SP (sp : Sp) (As : List VQ) (H : Hp) (C : VQ) : Prop := ∀ H1, Same H H1 → ∀ vs, All2 As vs H1 → ∀ Q : VK, (∀ v H2, Same H1 H2 → C v H2 → Q v H2) → sp vs H1 Q E0
def CP (r : List V → Hp → VK → Prop) (As : List VQ) (H : Hp) (C : VQ) : Prop := ∀ H1, Same H H1 → ∀ vs, All2 As vs H1 → ∀ Q : VK, (∀ v H2, Same H1 H2 → C v H2 → Q v H2) → r vs H1 Q
section
variable {σ : L2.St} {H : Hp} {ta tb te : TE} {tt tu : TT} {A B C Φ : VQ} {As : List VQ} {t : TA} {sp : Sp} {b c : Bool} {x y v : V}
theorem EvP.run (h : EvP te σ H Φ) {Q : VK} (k : ∀ v H2, Same H H2 → Φ v H2 → Q v H2) : te σ H Q := h H (Same.refl H) Q k
theorem EtP.run (h : EtP tt σ H b) {Q : Bool → Hp → Prop} (k : ∀ H2, Same H H2 → Q b H2) : tt σ H Q := h H (Same.refl H) Q k
theorem EaP.run (h : EaP t σ H As) {Q : List V → Hp → Prop} (k : ∀ vs H2, Same H H2 → All2 As vs H2 → Q vs H2) : t σ H Q := h H (Same.refl H) Q k
theorem EvP.mono {H' : Hp} (e : Same H H') (h : EvP te σ H Φ) : EvP te σ H' Φ := fun H1 e1 => h H1 (e.trans e1)
theorem EvP.imp {Ψ : VQ} (h : EvP te σ H Φ) (i : ∀ v H1, Same H H1 → Φ v H1 → Ψ v H1) : EvP te σ H Ψ := fun H1 e1 Q k => h H1 e1 Q fun v H2 e2 h2 => k v H2 e2 (i v H2 (e1.trans e2) h2)
theorem ev_var [m : Mono Φ] {i : Nat} (h : σ[i]? = some (some v)) (p : Φ v H) : EvP (tVar i) σ H Φ := fun H1 e Q k => ⟨v, h, k v H1 (Same.refl H1) (m.mono e p)⟩
theorem ev_c [m : Mono Φ] (p : Φ v H) : EvP (tC v) σ H Φ := fun H1 e Q k => k v H1 (Same.refl H1) (m.mono e p)
theorem ev_k : EvP (tC v) σ H (is v) := ev_c rfl
theorem ev_v {i : Nat} (h : σ[i]? = some (some v)) : EvP (tVar i) σ H (is v) := ev_var h rfl
theorem ev_op [m : Mono A] (ha : EvP ta σ H A) (hb : EvP tb σ H B) {r : R2} (hr : RP r A B H C) : EvP (tOp r ta tb) σ H C := fun H1 e Q k =>
  ha H1 e _ fun x H2 e2 hx => hb H2 (e.trans e2) _ fun y H3 e3 hy => hr H3 ((e.trans e2).trans e3) x y (m.mono e3 hx) hy Q fun v H4 e4 h4 => k v H4 ((e2.trans e3).trans e4) h4
theorem ea_nil : EaP tNil σ H [] := fun H1 _ Q k => k [] H1 (Same.refl H1) .nil
theorem ea_cons [m : Mono A] (ha : EvP ta σ H A) (ht : EaP t σ H As) : EaP (tCons ta t) σ H (A :: As) := fun H1 e Q k =>
  ha H1 e _ fun x H2 e2 hx => ht H2 (e.trans e2) _ fun vs H3 e3 hs => k (x :: vs) H3 (e2.trans e3) (.cons (m.mono e3 hx) hs)
theorem ev_f (ha : EaP t σ H As) (hs : SP sp As H C) : EvP (tF sp t) σ H C := fun H1 e Q k =>
  ha H1 e _ fun vs H2 e2 hv => hs H2 (e.trans e2) vs hv Q fun v H3 e3 h3 => k v H3 (e2.trans e3) h3
theorem ev_cb {r : List V → Hp → VK → Prop} (ha : EaP t σ H As) (hs : CP r As H C) : EvP (tCB r t) σ H C := fun H1 e Q k =>
  ha H1 e _ fun vs H2 e2 hv => hs H2 (e.trans e2) vs hv Q fun v H3 e3 h3 => k v H3 (e2.trans e3) h3
theorem ev_s {D : Addr} (he : EvP te σ H (is (.ref D))) (ha : EaP t σ H As) (hs : SP sp As H C) : EvP (tS D sp te t) σ H C := fun H1 e Q k =>
  he H1 e _ fun x H2 e2 hx => ⟨hx, ha H2 (e.trans e2) _ fun vs H3 e3 hv => hs H3 ((e.trans e2).trans e3) vs hv Q fun v H4 e4 h4 => k v H4 ((e2.trans e3).trans e4) h4⟩
/-! tests -/
theorem et_test (h : EvP te σ H (is (.bl b))) : EtP (tTest te) σ H b := fun H1 e Q k => h H1 e _ fun v H2 e2 hv => ⟨b, hv, k H2 e2⟩
theorem et_B (h : EvP te σ H (is (.bl b))) : EtP (tB te) σ H b := fun H1 e Q k => h H1 e _ fun v H2 e2 hv => ⟨b, hv, k H2 e2⟩
theorem et_not (h : EtP tt σ H b) : EtP (tNot tt) σ H (!b) := fun H1 e Q k => h H1 e _ fun H2 e2 => k H2 e2
theorem et_and (h : EtP tt σ H b) (h2 : b = true → EtP tu σ H c) : EtP (tAnd tt tu) σ H (b && c) := fun H1 e Q k => h H1 e _ fun H2 e2 => by
  cases b with
  | true => exact h2 rfl H2 (e.trans e2) _ fun H3 e3 => k H3 (e2.trans e3)
  | false => exact k H2 e2
theorem et_or (h : EtP tt σ H b) (h2 : b = false → EtP tu σ H c) : EtP (tOr tt tu) σ H (b || c) := fun H1 e Q k => h H1 e _ fun H2 e2 => by
  cases b with
  | true => exact k H2 e2
  | false => exact h2 rfl H2 (e.trans e2) _ fun H3 e3 => k H3 (e2.trans e3)
theorem ev_andV (h : EvP ta σ H (is (.bl b))) (h2 : b = true → EvP tb σ H (is (.bl c))) : EvP (tAndV ta tb) σ H (is (.bl (b && c))) := fun H1 e Q k => h H1 e _ fun v H2 e2 hv => ⟨b, hv, by
  cases b with
  | true => exact h2 rfl H2 (e.trans e2) _ fun v H3 e3 h3 => k v H3 (e2.trans e3) h3
  | false => exact k _ H2 e2 rfl⟩
theorem ev_orV (h : EvP ta σ H (is (.bl b))) (h2 : b = false → EvP tb σ H (is (.bl c))) : EvP (tOrV ta tb) σ H (is (.bl (b || c))) := fun H1 e Q k => h H1 e _ fun v H2 e2 hv => ⟨b, hv, by
  cases b with
  | true => exact k _ H2 e2 rfl
  | false => exact h2 rfl H2 (e.trans e2) _ fun v H3 e3 h3 => k v H3 (e2.trans e3) h3⟩
theorem ev_notV (h : EvP ta σ H (is (.bl b))) : EvP (tNotV ta) σ H (is (.bl (!b))) := fun H1 e Q k => h H1 e _ fun v H2 e2 hv => ⟨b, hv, k _ H2 e2 rfl⟩
theorem ev_if (h : EtP tt σ H b) (h1 : b = true → EvP ta σ H Φ) (h2 : b = false → EvP tb σ H Φ) : EvP (tIf tt ta tb) σ H Φ := fun H1 e Q k => h H1 e _ fun H2 e2 => by
  cases b with
  | true => exact h1 rfl H2 (e.trans e2) _ fun v H3 e3 h3 => k v H3 (e2.trans e3) h3
  | false => exact h2 rfl H2 (e.trans e2) _ fun v H3 e3 h3 => k v H3 (e2.trans e3) h3
theorem et_eq (h : EtP tt σ H b) (e : b = c) : EtP tt σ H c := e ▸ h
theorem ev_eq (h : EvP te σ H (is x)) (e : x = y) : EvP te σ H (is y) := e ▸ h
/-! ints -/
theorem rp_I0 {g : Int → Int → V} {i j : Int} : RP (rI0 g) (is (.int i)) (is (.int j)) H (is (g i j)) := fun H1 _ x y hx hy Q k => ⟨i, j, hx, hy, k _ H1 (Same.refl H1) rfl⟩
theorem rp_I {D : Int → Int → Prop} {g : Int → Int → V} {i j : Int} (hc : D i j) : RP (rI D g) (is (.int i)) (is (.int j)) H (is (g i j)) := fun H1 _ x y hx hy Q k => ⟨i, j, hx, hy, hc, k _ H1 (Same.refl H1) rfl⟩
theorem rp_eq (h : scal x y = true) : RP rEq (is x) (is y) H (is (.bl (decide (x = y)))) := fun H1 _ a b ha hb Q k => by
  cases ha; cases hb
  exact ⟨h, k _ H1 (Same.refl H1) rfl⟩
theorem rp_ne (h : scal x y = true) : RP rNe (is x) (is y) H (is (.bl (!decide (x = y)))) := fun H1 _ a b ha hb Q k => by
  cases ha; cases hb
  exact ⟨h, k _ H1 (Same.refl H1) rfl⟩
/-- a new tuple, a new list -/
def tupQ (Φs : List VQ) : VQ := fun x H => ∃ a vs, x = .ref a ∧ H a = some (.tup vs) ∧ All2 Φs vs H
def lstQ (Φs : List VQ) : VQ := fun x H => ∃ a vs, x = .ref a ∧ H a = some (.lst vs) ∧ All2 Φs vs H
theorem stabL_of {Φs : List VQ} (m : ∀ Φ ∈ Φs, Stab Φ) : StabL Φs := by
  induction Φs with
  | nil => exact inferInstance
  | cons Φ Φs ih =>
    have := m Φ (.head _)
    have := ih fun Ψ hΨ => m Ψ (.tail _ hΨ)
    exact inferInstance
instance {α : Type} {f : α → VQ} [m : ∀ x, Stab (f x)] {l : List α} : StabL (l.map f) := stabL_of fun Φ hΦ => by
  obtain ⟨x, _, rfl⟩ := List.mem_map.mp hΦ
  exact m x
instance {Φs : List VQ} [m : StabL Φs] : MonoL Φs := ⟨fun e h => m.st (nl_same e) h⟩
instance {Φs : List VQ} [m : StabL Φs] : Stab (tupQ Φs) := ⟨fun e ⟨a, vs, h1, h2, h3⟩ => ⟨a, vs, h1, e.tup h2, m.st e h3⟩⟩
instance {Φs : List VQ} [m : MonoL Φs] : Mono (tupQ Φs) := ⟨fun e ⟨a, vs, h1, h2, h3⟩ => ⟨a, vs, h1, e _ _ h2, m.mono e h3⟩⟩
instance {Φs : List VQ} [m : MonoL Φs] : Mono (lstQ Φs) := ⟨fun e ⟨a, vs, h1, h2, h3⟩ => ⟨a, vs, h1, e _ _ h2, m.mono e h3⟩⟩
theorem All2.length {Φs : List VQ} {vs : List V} (h : All2 Φs vs H) : Φs.length = vs.length := by
  induction h with
  | nil => rfl
  | cons _ _ ih => rw [List.length_cons, List.length_cons, ih]
theorem ev_tup [m : MonoL As] (h : EaP t σ H As) (hl : As.length ≤ 1000 := by exact Nat.le_of_ble_eq_true rfl) : EvP (tTup t) σ H (tupQ As) := fun H1 e Q k => h H1 e _ fun vs H2 e2 hv =>
  ⟨Nat.le_of_lt (small1000 (by rw [← hv.length]; exact hl)), fun p hp => k _ _ (e2.trans (same_new hp)) ⟨p, vs, rfl, upd_same, m.mono (same_new hp) hv⟩⟩
theorem ev_lst [m : MonoL As] (h : EaP t σ H As) (hl : As.length ≤ 1000 := by exact Nat.le_of_ble_eq_true rfl) : EvP (tLst t) σ H (lstQ As) := fun H1 e Q k => h H1 e _ fun vs H2 e2 hv =>
  ⟨Nat.le_of_lt (small1000 (by rw [← hv.length]; exact hl)), fun p hp => k _ _ (e2.trans (same_new hp)) ⟨p, vs, rfl, upd_same, m.mono (same_new hp) hv⟩⟩
end
/-! ### statements -/
section
variable {σ : L2.St} {H : Hp} {te : TE} {tt : TT} {Φ : VQ} {u a b : TS} {D : Ends} {c : Bool}
theorem s_skip (h : EtP tt σ H false) (k : ∀ H2, Same H H2 → u D σ H2) : tSeq (tIfS tt a tNext) u D σ H := h H (Same.refl H) _ fun H2 e2 => k H2 e2
theorem s_skip1 (h : EtP tt σ H false) (k : ∀ H2, Same H H2 → D.nx σ H2) : tIfS tt a tNext D σ H := h H (Same.refl H) _ fun H2 e2 => k H2 e2
theorem s_if (h : EtP tt σ H c) (k1 : c = true → ∀ H2, Same H H2 → a { D with nx := u D } σ H2) (k2 : c = false → ∀ H2, Same H H2 → b { D with nx := u D } σ H2) : tSeq (tIfS tt a b) u D σ H := h H (Same.refl H) _ fun H2 e2 => by
  cases c with
  | true => exact k1 rfl H2 e2
  | false => exact k2 rfl H2 e2
theorem s_ret (h : EvP te σ H Φ) (k : ∀ v H2, Same H H2 → Φ v H2 → D.rt v H2) : tRet te D σ H := h H (Same.refl H) _ k
theorem s_set {i : Nat} (h : EvP te σ H Φ) (k : ∀ v H2, Same H H2 → Φ v H2 → u D (σ.set i (some v)) H2) : tSeq (tAsg te (gName i)) u D σ H := h H (Same.refl H) _ k
end
/-! ### comprehensions over a sequence -/
/-- the walk is over the tuple, the list at a -/
def EiT (K : PySem.W.Frag) (wi : TI) (σ : L2.St) (H : Hp) (xs : List V) : Prop := ∀ H1, Same H H1 → ∀ R : It → Hp → Prop, (∀ a H2, Same H1 H2 → SqT K H2 a xs → R (Itt K a) H2) → wi σ H1 R
def EiL (K : PySem.W.Frag) (wi : TI) (σ : L2.St) (H : Hp) (xs : List V) : Prop := ∀ H1, Same H H1 → ∀ R : It → Hp → Prop, (∀ a H2, Same H1 H2 → SqL K H2 a xs → R (Itl K a) H2) → wi σ H1 R
theorem sqt_mono {K : PySem.W.Frag} {H H' : Hp} {a : Addr} {xs : List V} (e : Same H H') (h : SqT K H a xs) : SqT K H' a xs := by
  rcases h with (h | ⟨o, h⟩) | h
  · exact .inl (.inl (e _ _ h))
  · exact .inl (.inr ⟨o, e _ _ h⟩)
  · exact .inr h
section
variable {σ : L2.St} {H : Hp} {te : TE} {tt : TT} {wi : TI} {K : PySem.W.Frag} {i : Nat} {vs : List Nat} {xs : List V}
/-- the kept ones' values, by places -/
def keptQ (b : Nat → Bool) (Φ : Nat → VQ) (n : Nat) : List VQ := ((List.range n).filter b).map Φ
theorem keptQ_len (b : Nat → Bool) (Φ : Nat → VQ) (n : Nat) : (keptQ b Φ n).length ≤ n := by
  unfold keptQ
  rw [List.length_map]
  exact Nat.le_trans (List.length_filter_le _ _) (Nat.le_of_eq List.length_range)
theorem range_map {α β : Type} (ts : List α) (d : α) (p : α → Bool) (f : α → β) : ((List.range ts.length).filter fun i => p (ts.getD i d)).map (fun i => f (ts.getD i d)) = (ts.filter p).map f := by
  have key : ∀ (l : List α) (k : Nat) (hk : l = ts.drop k), ((List.range' k l.length).filter fun i => p (ts.getD i d)).map (fun i => f (ts.getD i d)) = (l.filter p).map f := by
    intro l
    induction l with
    | nil => intro k _; rfl
    | cons x l ih =>
      intro k hk
      have hx : ts.getD k d = x := by
        have : (ts.drop k)[0]? = some x := by rw [← hk]; rfl
        rw [List.getElem?_drop] at this
        rw [List.getD_eq_getElem?_getD]
        simp at this
        rw [this]
        rfl
      have hl : l = ts.drop (k + 1) := by
        have : (ts.drop k).drop 1 = l := by rw [← hk]; rfl
        rw [List.drop_drop] at this
        exact this.symm
      rw [List.length_cons, List.range'_succ, List.filter_cons, List.filter_cons, hx]
      cases p x
      · exact ih (k + 1) hl
      · rw [if_pos rfl, if_pos rfl, List.map_cons, List.map_cons, hx, ih (k + 1) hl]
  rw [List.range_eq_range']
  exact key ts 0 rfl
theorem range_map1 {α β : Type} (ts : List α) (d : α) (f : α → β) : ((List.range ts.length).filter fun _ => true).map (fun i => f (ts.getD i d)) = ts.map f := by
  have := range_map ts d (fun _ => true) f
  rw [this, List.filter_eq_self.mpr fun _ _ => rfl]
theorem All2.app {Φs Ψs : List VQ} {vs ws : List V} (h : All2 Φs vs H) (h2 : All2 Ψs ws H) : All2 (Φs ++ Ψs) (vs ++ ws) H := by
  induction h with
  | nil => exact h2
  | cons a _ ih => exact .cons a (ih h2)
theorem lc_seq {J : It} {G : Hp → Prop} (wk : Walk J xs.length G (YAt xs)) {H1 : Hp} {D : Addr} {Q : VK} (e0 : Same H H1) (hD : H1 D = none) (hG : ∀ H2, Same H1 H2 → G H2) {g : TG} (b : Nat → Bool) (Φ : Nat → VQ) [mΦ : ∀ x, Stab (Φ x)] (hl : xs.length ≤ 1000)
    (hg : ∀ n x, xs[n]? = some x → ∃ σx, wipe σx vs = wipe σ vs ∧ (∀ H' R, R σx H' → g x (wipe σ vs) H' R) ∧ EtP tt σx H (b n) ∧ (b n = true → EvP te σx H (Φ n)))
    (k : ∀ ys H2, Same H1 H2 → H2 D = some (.lst ys) → All2 (keptQ b Φ xs.length) ys H2 → Q (.ref D) H2) :
    ∃ W : Nat → Nat → Hp → Prop, (∃ m, W 0 m (upd H1 D (.lst []))) ∧ ∀ i m H, W i m H →
      (J.stop i H ∧ Q (.ref D) H) ∨ (J.go i H ∧ ∃ Nx : Hp → Prop, (∀ H', Nx H' → ∃ m', m' < m ∧ W (i + 1) m' H') ∧ ∀ x H', J.yld i H x H' → g x (wipe σ vs) H' fun σ2 H2 => wipe σ2 vs = wipe σ vs ∧ tt σ2 H2 fun b H3 =>
        if b = true then te σ2 H3 fun y H4 => ∃ acc, H4 D = some (.lst acc) ∧ acc.length < sizeLine ∧ Nx (upd H4 D (.lst (acc ++ [y]))) else Nx H3) := by
  refine lc_it wk (fun n H' => Same H1 H' ∧ ∃ ys, H' D = some (.lst ys) ∧ All2 (keptQ b Φ n) ys H') ⟨same_new hD, [], upd_same, .nil⟩ (fun i H' _ ⟨e, _⟩ => hG H' e) ?_ ?_
  · rintro n x H2 H3 hn ⟨e1, ys, hd, ha⟩ ⟨rfl, hx⟩
    obtain ⟨σx, hw, hgx, ht, he⟩ := hg n x hx
    refine hgx _ _ ⟨hw, ht _ (e0.trans e1) _ fun H4 e4 => ?_⟩
    have hk : keptQ b Φ (n + 1) = keptQ b Φ n ++ (if b n = true then [Φ n] else []) := by
      unfold keptQ
      rw [List.range_succ, List.filter_append, List.map_append]
      cases hb : b n <;> simp [hb]
    have mk : StabL (keptQ b Φ n) := by unfold keptQ; exact inferInstance
    cases hb : b n with
    | true =>
      refine he hb H4 ((e0.trans e1).trans e4) _ fun y H5 e5 hy => ?_
      have hd5 : H5 D = some (.lst ys) := e5 _ _ (e4 _ _ hd)
      have ll : ys.length ≤ 1000 := by
        rw [← ha.length]
        exact Nat.le_trans (keptQ_len b Φ n) (by omega)
      have eD : Same H1 (upd H5 D (.lst (ys ++ [y]))) := same_mut ((e1.trans e4).trans e5) hD
      refine ⟨ys, hd5, small1000 ll, eD, _, upd_same, ?_⟩
      rw [hk, if_pos hb]
      have nl : NL H5 (upd H5 D (.lst (ys ++ [y]))) := nl_put hd5
      exact (mk.st ((nl_same (e4.trans e5)).trans nl) ha).app (.cons ((mΦ n).st nl hy) .nil)
    | false =>
      refine ⟨e1.trans e4, ys, e4 _ _ hd, ?_⟩
      rw [hk, hb, if_neg Bool.false_ne_true, List.append_nil]
      exact mk.st (nl_same e4) ha
  · rintro H2 ⟨e1, ys, hd, ha⟩
    exact k ys H2 e1 hd ha
theorem ev_lcT (hi : EiT K wi σ H xs) {g : TG} (b : Nat → Bool) (Φ : Nat → VQ) [mΦ : ∀ x, Stab (Φ x)] (hl : xs.length ≤ 1000)
    (hg : ∀ n x, xs[n]? = some x → ∃ σx, wipe σx vs = wipe σ vs ∧ (∀ H' R, R σx H' → g x (wipe σ vs) H' R) ∧ EtP tt σx H (b n) ∧ (b n = true → EvP te σx H (Φ n))) :
    EvP (tLc wi g tt te vs) σ H (lstQ (keptQ b Φ xs.length)) := fun H1 e Q k => hi H1 e _ fun a H2 e2 hs D hD =>
  lc_seq (walk_tup (K := K) (a := a) (xs := xs)) (e.trans e2) hD (fun H3 e3 => sqt_mono e3 hs) b Φ hl hg fun ys H3 e3 hd ha => k _ H3 (e2.trans e3) ⟨D, ys, rfl, hd, ha⟩
theorem ev_lcL (hi : EiL K wi σ H xs) {g : TG} (b : Nat → Bool) (Φ : Nat → VQ) [mΦ : ∀ x, Stab (Φ x)] (hl : xs.length ≤ 1000)
    (hg : ∀ n x, xs[n]? = some x → ∃ σx, wipe σx vs = wipe σ vs ∧ (∀ H' R, R σx H' → g x (wipe σ vs) H' R) ∧ EtP tt σx H (b n) ∧ (b n = true → EvP te σx H (Φ n))) :
    EvP (tLc wi g tt te vs) σ H (lstQ (keptQ b Φ xs.length)) := fun H1 e Q k => hi H1 e _ fun a H2 e2 hs D hD =>
  lc_seq (walk_list (K := K) (a := a) (xs := xs)) (e.trans e2) hD (fun H3 e3 => e3.seq hs) b Φ hl hg fun ys H3 e3 hd ha => k _ H3 (e2.trans e3) ⟨D, ys, rfl, hd, ha⟩
theorem et_yes : EtP tYes σ H true := fun H1 e Q k => k H1 (Same.refl H1)
end
end K22

set_option Elab.async false
set_option linter.all false
set_option maxRecDepth 100000
set_option maxHeartbeats 4000000
/-! C2: days, trips: their making. -/
namespace K22
open PySem PySem.Spec PyProof.Rows L2
/-- an instance of C with these fields -/
def insQ (C : Addr) (fs : List (Str × V)) : VQ := fun x H => ∃ a dx, x = .ref a ∧ H a = some (.ins C dx fs)
instance {C : Addr} {fs : List (Str × V)} : Stab (insQ C fs) := ⟨fun e ⟨a, dx, h1, h2⟩ => ⟨a, dx, h1, e.ins h2⟩⟩
structure Tr where
  stay : Bool
  name : Str
  start : Str
  leaves : Int
  takes : Int
  goal : Str
deriving DecidableEq
def Tr.flds (t : Tr) : List (Str × V) := [("name", .str t.name), ("start", .str t.start), ("leaves", .int t.leaves), ("takes", .int t.takes), ("goal", .str t.goal)]
structure Tr.Ok (t : Tr) : Prop where
  name : nameOk t.name = true
  start : nameOk t.start = true
  goal : nameOk t.goal = true
  l0 : 0 ≤ t.leaves
  l1 : t.leaves ≤ 1000000000000
  t0 : 1 ≤ t.takes
  t1 : t.takes ≤ 1000000000000
  loop : t.stay = true → t.goal = t.start
def cT (K : PySem.W.Frag) (s : Bool) : Addr := if s = true then cStay K else cRun K
def tripQ (K : PySem.W.Frag) (t : Tr) : VQ := insQ (cT K t.stay) t.flds
instance {K : PySem.W.Frag} {t : Tr} : Stab (tripQ K t) := by unfold tripQ; exact inferInstance
def dayQ (K : PySem.W.Frag) (n : Int) : VQ := insQ (cDay K) [("length", .int n)]
instance {K : PySem.W.Frag} {n : Int} : Stab (dayQ K n) := by unfold dayQ; exact inferInstance
/-- all but x is kept -/
def KeepX (x : Addr) (H H' : Hp) : Prop := ∀ b o, b ≠ x → H b = some o → H' b = some o
theorem KeepX.refl {x : Addr} {H : Hp} : KeepX x H H := fun _ _ _ h => h
theorem KeepX.put {x : Addr} {H H' : Hp} {o : HO} (e : KeepX x H H') : KeepX x H (upd H' x o) := fun b u hb h => by
  rw [upd_ne hb]
  exact e b u hb h
theorem KeepX.same {x : Addr} {H H' H2 : Hp} (e : KeepX x H H') (s : Same H' H2) : KeepX x H H2 := fun b u hb h => s _ _ (e b u hb h)
theorem Same.keepX {x : Addr} {H H' : Hp} (s : Same H H') : KeepX x H H' := fun b u _ h => s _ _ h
/-- a new instance's making keeps what was there -/
theorem KeepX.new {x dx : Addr} {C : Addr} {H H' : Hp} (hx : H x = none) (hd : H dx = none) (e : KeepX x (upd (upd H dx (.own x)) x (.ins C dx [])) H') : Same H H' := fun b o h => by
  have h1 := ne_of_none h hx
  have h2 := ne_of_none h hd
  exact e b o h1 (by rw [upd_ne h1, upd_ne h2]; exact h)
/-- the fields of a trip are attributes of it alone -/
structure TrC (K : PySem.W.Frag) (C : Addr) : Prop where
  cl : Cls K C
  name : NoAttr K C "name"
  start : NoAttr K C "start"
  leaves : NoAttr K C "leaves"
  takes : NoAttr K C "takes"
  goal : NoAttr K C "goal"
section
variable {P : Program} {w : World} {K : PySem.W.Frag} {mg : Str → Option Value} {base : Heap}
theorem Fc.tr (G : Fc K mg) (s : Bool) : TrC K (cT K s) := by
  cases s
  · exact ⟨G.c_Run, G.n_Run_name, G.n_Run_start, G.n_Run_leaves, G.n_Run_takes, G.n_Run_goal⟩
  · exact ⟨G.c_Stay, G.n_Stay_name, G.n_Stay_start, G.n_Stay_leaves, G.n_Stay_takes, G.n_Stay_goal⟩
def spTripInit (K : PySem.W.Frag) : Sp := fun vs H Q _ => ∃ (x C dx : Addr) (t : Tr), vs = [.ref x, .str t.name, .str t.start, .int t.leaves, .int t.takes, .str t.goal] ∧ H x = some (.ins C dx []) ∧ TrC K C ∧ t.Ok ∧
  ∀ H', KeepX x H H' → H' x = some (.ins C dx t.flds) → Q .non H'
theorem sc_Trip_init : FnScope ["self", "name", "start", "leaves", "takes", "goal"] ["self", "name", "start", "leaves", "takes", "goal"] (defScope s_Trip_init) := ⟨rfl, rfl, rfl, by decide +kernel, rfl, by decide +kernel, by decide +kernel⟩
theorem flds5 (a b c d e : V) : putF "goal" e (putF "takes" d (putF "leaves" c (putF "start" b (putF "name" a [])))) = ([("name", a), ("start", b), ("leaves", c), ("takes", d), ("goal", e)] : List (Str × V)) := by
  have h1 : ¬ (("name" : Str) = "start") := by decide +kernel
  have h2 : ¬ (("name" : Str) = "leaves") := by decide +kernel
  have h3 : ¬ (("start" : Str) = "leaves") := by decide +kernel
  have h4 : ¬ (("name" : Str) = "takes") := by decide +kernel
  have h5 : ¬ (("start" : Str) = "takes") := by decide +kernel
  have h6 : ¬ (("leaves" : Str) = "takes") := by decide +kernel
  have h7 : ¬ (("name" : Str) = "goal") := by decide +kernel
  have h8 : ¬ (("start" : Str) = "goal") := by decide +kernel
  have h9 : ¬ (("leaves" : Str) = "goal") := by decide +kernel
  have h10 : ¬ (("takes" : Str) = "goal") := by decide +kernel
  simp only [putF, if_neg h1, if_neg h2, if_neg h3, if_neg h4, if_neg h5, if_neg h6, if_neg h7, if_neg h8, if_neg h9, if_neg h10]
theorem pl0 : ([] : List (Str × V)).length < 1000 := by decide
theorem pl1 {fs : List (Str × V)} {f : Str} {v : V} {n : Nat} (h : fs.length < n) : (putF f v fs).length < n + 1 := by
  have : ∀ fs : List (Str × V), (putF f v fs).length ≤ fs.length + 1 := by
    intro fs
    induction fs with
    | nil => exact Nat.le_refl _
    | cons p r ih =>
      obtain ⟨g, x⟩ := p
      show (if g = f then (g, v) :: r else (g, x) :: putF f v r).length ≤ _
      split
      · exact Nat.le_succ _
      · rw [List.length_cons, List.length_cons]
        omega
  have := this fs
  omega
theorem pq0 : ([] : List (Str × V)).length < 990 := by decide
theorem pq1 {f : Str} {v : V} : (putF f v []).length < 1000 := Nat.lt_of_lt_of_le (pl1 (n := 1) (by decide)) (by decide)
theorem pq2 {f g : Str} {v u : V} : (putF f v (putF g u [])).length < 1000 := Nat.lt_of_lt_of_le (pl1 (pl1 (n := 1) (by decide))) (by decide)
theorem pq3 {f g h : Str} {v u w : V} : (putF f v (putF g u (putF h w []))).length < 1000 := Nat.lt_of_lt_of_le (pl1 (pl1 (pl1 (n := 1) (by decide)))) (by decide)
theorem pq4 {f g h i : Str} {v u w x : V} : (putF f v (putF g u (putF h w (putF i x [])))).length < 1000 := Nat.lt_of_lt_of_le (pl1 (pl1 (pl1 (pl1 (n := 1) (by decide))))) (by decide)
theorem ok_Trip_init (G : Fc K mg) : Fn P w K mg base 4 (f_Trip_init K) (spTripInit K) := by
  refine fnA G.d_Trip_init sc_Trip_init (fun _ _ _ _ _ _ us hl => match us, hl with | [_, _, _, _, _, _], _ => rfl) (fun vs H Q h => ?_) (fun vs H Q E h => h) (fun cdv A outer s H vs Q hr h => ?_)
  · obtain ⟨x, C, dx, t, rfl, _⟩ := h
    rfl
  · obtain ⟨x, C, dx, t, rfl, hx, T, ok, k⟩ := h
    obtain ⟨tk, hmost⟩ := G.i_MOST_NUMBER
    have nm := fun (X : Cx) (j : Nat) => ()
    refine ⟨_, pss_cons (ps_if (pt_not (pt_val (pe_f (ok_is_name G) hr G.g_is_name G.d_is_name.choose_spec.kp (pa_cons (pv 1) pa_nil)))) pss_never pss_nil)
      (pss_cons (ps_if (PW.pt (pw_or (pt_not (pt_val (pe_f (ok_is_name G) hr G.g_is_name G.d_is_name.choose_spec.kp (pa_cons (pv 2) pa_nil)))) (pw_or1 (pt_not (pt_val (pe_f (ok_is_name G) hr G.g_is_name G.d_is_name.choose_spec.kp (pa_cons (pv 5) pa_nil))))))) pss_never pss_nil)
      (pss_cons (ps_if (pt_not (pt_val (pe_f (ok_is_number G) hr G.g_is_number G.d_is_number.choose_spec.kp (pa_cons (pv 3) pa_nil)))) pss_never pss_nil)
      (pss_cons (ps_if (pt_not (pt_val (pe_f (ok_is_between G) hr G.g_is_between G.d_is_between.choose_spec.kp (pa_cons (pv 4) (pa_cons pe_int (pa_cons (pe_glob (v := .int 1000000000000) (by rfl) hmost ⟨_, rfl⟩) pa_nil)))))) pss_never pss_nil)
      (pss_cons (ps_fld (pv 0) (pv 1) rfl) (pss_cons (ps_fld (pv 0) (pv 2) rfl) (pss_cons (ps_fld (pv 0) (pv 3) rfl) (pss_cons (ps_fld (pv 0) (pv 4) rfl) (pss_one (ps_fld (pv 0) (pv 5) rfl))))))))), ?_⟩
    refine ⟨_, rfl, _, rfl, ok.name, fun H1 e1 => ⟨_, rfl, ?_⟩⟩
    refine iteF ?_
    refine ⟨_, rfl, _, rfl, ok.start, fun H2 e2 => ⟨_, rfl, ?_⟩⟩
    refine iteF ⟨_, rfl, _, rfl, ok.goal, fun H3 e3 => ⟨_, rfl, ?_⟩⟩
    refine iteF ?_
    refine ⟨_, rfl, _, rfl, ok.l0, ok.l1, _, rfl, ?_⟩
    refine iteF ?_
    refine ⟨_, rfl, _, _, _, rfl, _, rfl, ?_⟩
    rw [decide_eq_true ⟨ok.t0, ok.t1⟩]
    refine iteF ?_
    have hx3 : H3 x = some (.ins C dx []) := e3 _ _ (e2 _ _ (e1 _ _ hx))
    refine ⟨_, rfl, _, rfl, x, C, dx, _, rfl, hx3, T.cl, T.name, pl0, ?_⟩
    refine ⟨_, rfl, _, rfl, x, C, dx, _, rfl, upd_same, T.cl, T.start, pq1, ?_⟩
    refine ⟨_, rfl, _, rfl, x, C, dx, _, rfl, upd_same, T.cl, T.leaves, pq2, ?_⟩
    refine ⟨_, rfl, _, rfl, x, C, dx, _, rfl, upd_same, T.cl, T.takes, pq3, ?_⟩
    refine ⟨_, rfl, _, rfl, x, C, dx, _, rfl, upd_same, T.cl, T.goal, pq4, ?_⟩
    refine k _ (KeepX.put (KeepX.put (KeepX.put (KeepX.put (KeepX.put (Same.keepX ((e1.trans e2).trans e3))))))) ?_
    rw [upd_same, flds5]
    rfl
/-! ### days -/
def spDayInit (K : PySem.W.Frag) : Sp := fun vs H Q _ => ∃ (x dx : Addr) (n : Int), vs = [.ref x, .int n] ∧ H x = some (.ins (cDay K) dx []) ∧ 1 ≤ n ∧ n ≤ 1000000000000 ∧ ∀ H', KeepX x H H' → H' x = some (.ins (cDay K) dx [("length", .int n)]) → Q .non H'
theorem sc_Day_init : FnScope ["self", "length"] ["self", "length"] (defScope s_Day_init) := ⟨rfl, rfl, rfl, by decide +kernel, rfl, by decide +kernel, by decide +kernel⟩
theorem ok_Day_init (G : Fc K mg) : Fn P w K mg base 3 (f_Day_init K) (spDayInit K) := by
  refine fnA G.d_Day_init sc_Day_init (fun _ _ _ _ _ _ us hl => match us, hl with | [_, _], _ => rfl) (fun vs H Q h => ?_) (fun vs H Q E h => h) (fun cdv A outer s H vs Q hr h => ?_)
  · obtain ⟨x, dx, n, rfl, _⟩ := h
    rfl
  · obtain ⟨x, dx, n, rfl, hx, h1, h2, k⟩ := h
    obtain ⟨tk, hmost⟩ := G.i_MOST_LENGTH
    refine ⟨_, pss_cons (ps_if (pt_not (pt_val (pe_f (ok_is_between G) hr G.g_is_between G.d_is_between.choose_spec.kp (pa_cons (pv 1) (pa_cons pe_int (pa_cons (pe_glob (v := .int 1000000000000) (by rfl) hmost ⟨_, rfl⟩) pa_nil)))))) pss_never pss_nil)
      (pss_one (ps_fld (pv 0) (pv 1) rfl)), ?_⟩
    refine ⟨_, rfl, _, _, _, rfl, _, rfl, ?_⟩
    rw [decide_eq_true ⟨h1, h2⟩]
    refine iteF ?_
    refine ⟨_, rfl, _, rfl, x, cDay K, dx, _, rfl, hx, G.c_Day, G.n_Day_length, pl0, ?_⟩
    exact k _ (KeepX.put KeepX.refl) upd_same
/-- isinstance(x, C) of an own instance -/
theorem cp_isi {C D : Addr} {fs : List (Str × V)} {H : Hp} {b : Bool} (cl : Cls K C) (T : InsT K C) (e : PySem.W.kitOne K (.ref C) (.ref D) = some b) : CP (rIsi K) [insQ C fs, is (.ref D)] H (is (.bl b)) := by
  intro H1 e1 vs hv Q k
  cases hv with
  | cons h1 h =>
  cases h with
  | cons h2 h =>
  cases h
  obtain ⟨a, dx, rfl, ha⟩ := h1
  cases h2
  exact ⟨_, _, _, _, b, rfl, .own D, .base (.ins ha cl T.ha T.hn T.htk T.hm), e, k _ H1 (Same.refl H1) rfl⟩
theorem ev_fld {te : TE} {σ : L2.St} {H : Hp} {C : Addr} {fs : List (Str × V)} {f : Str} {v : V} (he : EvP te σ H (insQ C fs)) (cl : Cls K C) (na : NoAttr K C f) (l : fs.lookup f = some v) : EvP (tFld K te f) σ H (is v) := fun H1 e Q k =>
  he H1 e _ fun x H2 e2 ⟨a, dx, hx, ha⟩ => ⟨a, C, dx, fs, v, hx, ha, cl, na, l, k _ H2 e2 rfl⟩
def spDayEq (K : PySem.W.Frag) : Sp := fun vs H Q _ => ∃ (x y : V) (n m : Int), vs = [x, y] ∧ dayQ K n x H ∧ dayQ K m y H ∧ Q (.bl (decide (n = m))) H
end
end K22

set_option Elab.async false
set_option linter.all false
set_option maxRecDepth 100000
set_option maxHeartbeats 4000000
/-! C3: trips of both kinds made, timed. -/
namespace K22
open PySem PySem.Spec PyProof.Rows L2
section
variable {w : World} {K : PySem.W.Frag} {mg : Str → Option Value} {base : Heap}
abbrev xsStay : List (Str × Pos) := [("name", ⟨273, 25, 273, 29⟩), ("place", ⟨273, 31, 273, 36⟩), ("leaves", ⟨273, 38, 273, 44⟩), ("takes", ⟨273, 46, 273, 51⟩), ("place", ⟨273, 53, 273, 58⟩)]
theorem supT_Stay : SupT R.prog "__init__" "Stay.__init__" (defArgs s_Stay_init) (defBody s_Stay_init) (defScope s_Stay_init) ["self", "name", "place", "leaves", "takes"] "self" xsStay ⟨273, 8, 273, 13⟩ ⟨273, 8, 273, 15⟩ ⟨273, 8, 273, 24⟩ ⟨273, 8, 273, 59⟩ ⟨273, 8, 273, 59⟩ where
  bd := rfl
  ar := ⟨_, rfl, rfl⟩
  sup := by decide +kernel
  cls := by decide +kernel
  kind := rfl
  co := rfl
  gen := rfl
  nocell := by decide +kernel
  loc := by decide +kernel
  names := by decide +kernel
  hd := rfl
  nd := by decide +kernel
  top := by decide +kernel
  bind := fun _ _ _ _ _ _ _ us hl => match us, hl with | [_, _, _, _, _], _ => rfl
  sw := fun _ _ _ _ => rfl
  ev := fun _ _ _ _ => ⟨_, rfl⟩
abbrev xsRun : List (Str × Pos) := [("name", ⟨262, 25, 262, 29⟩), ("start", ⟨262, 31, 262, 36⟩), ("leaves", ⟨262, 38, 262, 44⟩), ("takes", ⟨262, 46, 262, 51⟩), ("goal", ⟨262, 53, 262, 57⟩)]
theorem supT_Run : SupT R.prog "__init__" "Run.__init__" (defArgs s_Run_init) (defBody s_Run_init) (defScope s_Run_init) ["self", "name", "start", "leaves", "takes", "goal"] "self" xsRun ⟨262, 8, 262, 13⟩ ⟨262, 8, 262, 15⟩ ⟨262, 8, 262, 24⟩ ⟨262, 8, 262, 58⟩ ⟨262, 8, 262, 58⟩ where
  bd := rfl
  ar := ⟨_, rfl, rfl⟩
  sup := by decide +kernel
  cls := by decide +kernel
  kind := rfl
  co := rfl
  gen := rfl
  nocell := by decide +kernel
  loc := by decide +kernel
  names := by decide +kernel
  hd := rfl
  nd := by decide +kernel
  top := by decide +kernel
  bind := fun _ _ _ _ _ _ _ us hl => match us, hl with | [_, _, _, _, _, _], _ => rfl
  sw := fun _ _ _ _ => rfl
  ev := fun _ _ _ _ => ⟨_, rfl⟩
/-- a trip's values handed to its class -/
def Tr.args (t : Tr) : List V := if t.stay = true then [.str t.name, .str t.start, .int t.leaves, .int t.takes] else [.str t.name, .str t.start, .int t.leaves, .int t.takes, .str t.goal]
def spMkInit (K : PySem.W.Frag) (b : Bool) : Sp := fun vs H Q _ => ∃ (x dx : Addr) (t : Tr), t.stay = b ∧ vs = .ref x :: t.args ∧ H x = some (.ins (cT K b) dx []) ∧ t.Ok ∧ ∀ H', KeepX x H H' → H' x = some (.ins (cT K b) dx t.flds) → Q .non H'
def f_init (K : PySem.W.Frag) (b : Bool) : Addr := if b = true then f_Stay_init K else f_Run_init K
theorem ok_mkinit (G : Fc K mg) (b : Bool) : Fn R.prog w K mg base 6 (f_init K b) (spMkInit K b) := by
  cases b with
  | true =>
    refine FnR.imp (fn_super supT_Stay G.e_Stay_init (ok_Trip_init G) G.b_super (by decide)) fun vs H Q E h => ?_
    obtain ⟨x, dx, t, hb, rfl, hx, ok, k⟩ := h
    have eg := ok.loop hb
    have ea : t.args = [.str t.name, .str t.start, .int t.leaves, .int t.takes] := by unfold Tr.args; rw [if_pos hb]
    rw [ea]
    refine ⟨rfl, x, cT K true, dx, [], [.str t.name, .str t.start, .int t.leaves, .int t.takes, .str t.goal], rfl, hx, G.su_Stay, rfl, ?_, x, cT K true, dx, t, rfl, hx, G.tr true, ok, k⟩
    rintro i y hi
    match i, hi with
    | 0, hi => cases hi; exact ⟨1, rfl, rfl⟩
    | 1, hi => cases hi; exact ⟨2, rfl, rfl⟩
    | 2, hi => cases hi; exact ⟨3, rfl, rfl⟩
    | 3, hi => cases hi; exact ⟨4, rfl, rfl⟩
    | 4, hi => cases hi; exact ⟨2, rfl, by rw [eg]; rfl⟩
  | false =>
    refine FnR.imp (fn_super supT_Run G.e_Run_init (ok_Trip_init G) G.b_super (by decide)) fun vs H Q E h => ?_
    obtain ⟨x, dx, t, hb, rfl, hx, ok, k⟩ := h
    have ea : t.args = [.str t.name, .str t.start, .int t.leaves, .int t.takes, .str t.goal] := by unfold Tr.args; rw [if_neg (by rw [hb]; decide)]
    rw [ea]
    refine ⟨rfl, x, cT K false, dx, [], [.str t.name, .str t.start, .int t.leaves, .int t.takes, .str t.goal], rfl, hx, G.su_Run, rfl, ?_, x, cT K false, dx, t, rfl, hx, G.tr false, ok, k⟩
    rintro i y hi
    match i, hi with
    | 0, hi => cases hi; exact ⟨1, rfl, rfl⟩
    | 1, hi => cases hi; exact ⟨2, rfl, rfl⟩
    | 2, hi => cases hi; exact ⟨3, rfl, rfl⟩
    | 3, hi => cases hi; exact ⟨4, rfl, rfl⟩
    | 4, hi => cases hi; exact ⟨5, rfl, rfl⟩
/-- what a class's call makes -/
def MkP (sp : Sp) (C : Addr) (As : List VQ) (H : Hp) (Φ : VQ) : Prop := ∀ H1, Same H H1 → ∀ vs, All2 As vs H1 → ∀ x dx, H1 x = none → H1 dx = none → dx ≠ x → ∀ Q : Hp → Prop, (∀ H2, Same H1 H2 → Φ (.ref x) H2 → Q H2) →
  sp (.ref x :: vs) (upd (upd H1 dx (.own x)) x (.ins C dx [])) (fun v H2 => v = .non ∧ Q H2) E0
theorem ev_mk {C : Addr} {sp : Sp} {σ : L2.St} {H : Hp} {t : TA} {As : List VQ} {Φ : VQ} (ha : EaP t σ H As) (hm : MkP sp C As H Φ) : EvP (tMk C sp t) σ H Φ := fun H1 e Q k =>
  ha H1 e _ fun vs H2 e2 hv x dx hx hd hne => hm H2 (e.trans e2) vs hv x dx hx hd hne (fun H' => Q (.ref x) H') fun H3 e3 h3 => k _ H3 (e2.trans e3) h3
theorem all2_is {xs vs : List V} {H : Hp} (h : All2 (xs.map is) vs H) : vs = xs := by
  induction xs generalizing vs with
  | nil => cases h; rfl
  | cons x xs ih =>
    cases h with
    | cons a r => rw [ih r, show _ = x from a]
theorem mk_trip {t : Tr} {H : Hp} (ok : t.Ok) : MkP (spMkInit K t.stay) (cT K t.stay) (t.args.map is) H (tripQ K t) := by
  intro H1 e vs hv x dx hx hd hne Q k
  have ev := all2_is hv
  subst ev
  refine ⟨x, dx, t, rfl, rfl, upd_same, ok, fun H' kp hx' => ⟨rfl, k H' (kp.new hx hd) ⟨x, dx, rfl, hx'⟩⟩⟩
theorem mk_day {n : Int} {H : Hp} (h1 : 1 ≤ n) (h2 : n ≤ 1000000000000) : MkP (spDayInit K) (cDay K) [is (.int n)] H (dayQ K n) := by
  intro H1 e vs hv x dx hx hd hne Q k
  have ev := all2_is (xs := [.int n]) hv
  subst ev
  refine ⟨x, dx, n, rfl, upd_same, h1, h2, fun H' kp hx' => ⟨rfl, k H' (kp.new hx hd) ⟨x, dx, rfl, hx'⟩⟩⟩
/-! ### timed -/
def Tr.timed (t : Tr) (l k : Int) : Tr := { t with leaves := l, takes := k }
def spTimed (K : PySem.W.Frag) (b : Bool) : Sp := fun vs H Q _ => ∃ (x : V) (t : Tr) (l n : Int), t.stay = b ∧ vs = [x, .int l, .int n] ∧ tripQ K t x H ∧ (t.timed l n).Ok ∧ ∀ v H', Same H H' → tripQ K (t.timed l n) v H' → Q v H'
theorem sc_Run_timed : FnScope ["self", "leaves", "takes"] ["self", "leaves", "takes"] (defScope s_Run_timed) := ⟨rfl, rfl, rfl, by decide +kernel, rfl, by decide +kernel, by decide +kernel⟩
theorem sc_Stay_timed : FnScope ["self", "leaves", "takes"] ["self", "leaves", "takes"] (defScope s_Stay_timed) := ⟨rfl, rfl, rfl, by decide +kernel, rfl, by decide +kernel, by decide +kernel⟩
theorem ev_tname {te : TE} {σ : L2.St} {H : Hp} {t : Tr} (G : Fc K mg) (h : EvP te σ H (tripQ K t)) : EvP (tFld K te "name") σ H (is (.str t.name)) := ev_fld h (G.tr _).cl (G.tr _).name rfl
theorem ev_tstart {te : TE} {σ : L2.St} {H : Hp} {t : Tr} (G : Fc K mg) (h : EvP te σ H (tripQ K t)) : EvP (tFld K te "start") σ H (is (.str t.start)) := ev_fld h (G.tr _).cl (G.tr _).start rfl
theorem ev_tleaves {te : TE} {σ : L2.St} {H : Hp} {t : Tr} (G : Fc K mg) (h : EvP te σ H (tripQ K t)) : EvP (tFld K te "leaves") σ H (is (.int t.leaves)) := ev_fld h (G.tr _).cl (G.tr _).leaves rfl
theorem ev_ttakes {te : TE} {σ : L2.St} {H : Hp} {t : Tr} (G : Fc K mg) (h : EvP te σ H (tripQ K t)) : EvP (tFld K te "takes") σ H (is (.int t.takes)) := ev_fld h (G.tr _).cl (G.tr _).takes rfl
theorem ev_tgoal {te : TE} {σ : L2.St} {H : Hp} {t : Tr} (G : Fc K mg) (h : EvP te σ H (tripQ K t)) : EvP (tFld K te "goal") σ H (is (.str t.goal)) := ev_fld h (G.tr _).cl (G.tr _).goal rfl
theorem ok_Run_timed (G : Fc K mg) : Fn R.prog w K mg base 8 (f_Run_timed K) (spTimed K false) := by
  refine fnA G.d_Run_timed sc_Run_timed (fun _ _ _ _ _ _ us hl => match us, hl with | [_, _, _], _ => rfl) (fun vs H Q h => ?_) (fun vs H Q E h => h) (fun cdv A outer s H vs Q hr h => ?_)
  · obtain ⟨x, t, l, n, _, rfl, _⟩ := h
    rfl
  · obtain ⟨x, t, l, n, hb, rfl, hx, ok, k⟩ := h
    refine ⟨_, pss_one (ps_ret (pe_mk (C := cT K false) G.m_Run (ok_mkinit G false) hr G.g_Run (pa_cons (pe_fld (pv 0) rfl) (pa_cons (pe_fld (pv 0) rfl) (pa_cons (pv 1) (pa_cons (pv 2) (pa_cons (pe_fld (pv 0) rfl) pa_nil))))))), ?_⟩
    have hm := mk_trip (K := K) (H := H) ok
    have es : (t.timed l n).stay = false := hb
    have ea : (t.timed l n).args = [.str t.name, .str t.start, .int l, .int n, .str t.goal] := by unfold Tr.args; rw [if_neg (by rw [es]; decide)]; rfl
    rw [es, ea] at hm
    have hv : EvP (tVar 0) (start ["self", "leaves", "takes"] [x, .int l, .int n]) H (tripQ K t) := ev_var rfl hx
    refine EvP.run (ev_mk (ea_cons (ev_tname G hv) (ea_cons (ev_tstart G hv) (ea_cons (ev_v rfl) (ea_cons (ev_v rfl) (ea_cons (ev_tgoal G hv) ea_nil))))) hm) fun v H2 e h2 => k v H2 e h2
theorem ok_Stay_timed (G : Fc K mg) : Fn R.prog w K mg base 8 (f_Stay_timed K) (spTimed K true) := by
  refine fnA G.d_Stay_timed sc_Stay_timed (fun _ _ _ _ _ _ us hl => match us, hl with | [_, _, _], _ => rfl) (fun vs H Q h => ?_) (fun vs H Q E h => h) (fun cdv A outer s H vs Q hr h => ?_)
  · obtain ⟨x, t, l, n, _, rfl, _⟩ := h
    rfl
  · obtain ⟨x, t, l, n, hb, rfl, hx, ok, k⟩ := h
    refine ⟨_, pss_one (ps_ret (pe_mk (C := cT K true) G.m_Stay (ok_mkinit G true) hr G.g_Stay (pa_cons (pe_fld (pv 0) rfl) (pa_cons (pe_fld (pv 0) rfl) (pa_cons (pv 1) (pa_cons (pv 2) pa_nil)))))), ?_⟩
    have hm := mk_trip (K := K) (H := H) ok
    have es : (t.timed l n).stay = true := hb
    have ea : (t.timed l n).args = [.str t.name, .str t.start, .int l, .int n] := by unfold Tr.args; rw [if_pos es]; rfl
    rw [es, ea] at hm
    have hv : EvP (tVar 0) (start ["self", "leaves", "takes"] [x, .int l, .int n]) H (tripQ K t) := ev_var rfl hx
    refine EvP.run (ev_mk (ea_cons (ev_tname G hv) (ea_cons (ev_tstart G hv) (ea_cons (ev_v rfl) (ea_cons (ev_v rfl) ea_nil)))) hm) fun v H2 e h2 => k v H2 e h2
end
end K22

set_option Elab.async false
set_option linter.all false
set_option maxRecDepth 100000
set_option maxHeartbeats 4000000
/-! C4: trips compared, told. -/
namespace K22
open PySem PySem.Spec PyProof.Rows L2
section
variable {σ : L2.St} {H : Hp} {te : TE} {K : PySem.W.Frag}
theorem ev_con {C : Addr} {fs : List (Str × V)} {f : Str} {v : V} {u : Value} (he : EvP te σ H (insQ C fs)) (cl : Cls K C) (c : Con K C f v u) (l : fs.lookup f = none) : EvP (tCon K te f) σ H (is v) := fun H1 e Q k =>
  he H1 e _ fun x H2 e2 ⟨a, dx, hx, ha⟩ => ⟨a, C, dx, fs, v, u, hx, ha, cl, c, l, k _ H2 e2 rfl⟩
theorem rp_ltS {i j : Str} : RP (fun x y H Q => ∃ i j, x = .str i ∧ y = .str j ∧ Q (.bl (decide (i.cps.toList < j.cps.toList))) H) (is (.str i)) (is (.str j)) H (is (.bl (decide (i.cps.toList < j.cps.toList)))) :=
  fun H1 _ x y hx hy Q k => ⟨i, j, hx, hy, k _ H1 (Same.refl H1) rfl⟩
theorem rp_leS {i j : Str} : RP (fun x y H Q => ∃ i j, x = .str i ∧ y = .str j ∧ Q (.bl (!decide (j.cps.toList < i.cps.toList))) H) (is (.str i)) (is (.str j)) H (is (.bl (!decide (j.cps.toList < i.cps.toList)))) :=
  fun H1 _ x y hx hy Q k => ⟨i, j, hx, hy, k _ H1 (Same.refl H1) rfl⟩
theorem ev_fmtS {y : Str} (h : EvP te σ H (is (.str y))) (hl : y.length ≤ 100000) : EvP (tFmt te) σ H (is (.str y)) := fun H1 e Q k => h H1 e _ fun v H2 e2 hv => .inl ⟨y, hv, Nat.le_trans hl (by decide), k _ H2 e2 rfl⟩
theorem ev_fmtI {i : Int} (h : EvP te σ H (is (.int i))) (hl : i.natAbs < 2 ^ 200) : EvP (tFmt te) σ H (is (.str (toString i))) := fun H1 e Q k => h H1 e _ fun v H2 e2 hv => .inr ⟨i, hv, by
  by_cases z : i.natAbs = 0
  · rw [z]; decide
  · exact Nat.lt_of_lt_of_le (Nat.log2_lt z |>.mpr hl) (by decide), k _ H2 e2 rfl⟩
/-- texts by expressions, one by one -/
inductive EjP (σ : L2.St) (H : Hp) : List TE → List Str → Prop where
  | nil : EjP σ H [] []
  | cons {t : TE} {ts : List TE} {y : Str} {ys : List Str} : EvP t σ H (is (.str y)) → EjP σ H ts ys → EjP σ H (t :: ts) (y :: ys)
/-- texts one behind the other -/
def catS (acc : Str) (ys : List Str) : Str := ys.foldl (· ++ ·) acc
theorem str_app_len (a b : Str) : (a ++ b).length = a.length + b.length := by
  show (a.cps ++ b.cps).size = a.cps.size + b.cps.size
  exact Array.size_append
theorem ej_run {ts : List TE} {ys : List Str} (h : EjP σ H ts ys) : ∀ (acc : Str) (H1 : Hp), Same H H1 → acc.length + (ys.map (·.length)).sum ≤ 100000 → ∀ Q : Str → Hp → Prop, (∀ H2, Same H1 H2 → Q (catS acc ys) H2) → tJs ts acc σ H1 Q := by
  induction h with
  | nil => intro acc H1 e _ Q k; exact k H1 (Same.refl H1)
  | cons h r ih =>
    intro acc H1 e hl Q k
    rw [List.map_cons, List.sum_cons] at hl
    refine h H1 e _ fun v H2 e2 hv => ⟨_, hv, ?_, ?_⟩
    · rw [str_app_len]
      exact Nat.le_trans (m := 100000) (by omega) (by decide)
    · refine ih _ H2 (e.trans e2) (by rw [str_app_len]; omega) Q fun H3 e3 => k H3 (e2.trans e3)
theorem ev_joined {ts : List TE} {ys : List Str} (h : EjP σ H ts ys) (hl : (ys.map (·.length)).sum ≤ 100000) : EvP (fun σ H Q => tJs ts Str.empty σ H fun out H1 => Q (.str out) H1) σ H (is (.str (catS Str.empty ys))) := fun H1 e Q k =>
  ej_run h Str.empty H1 e (by have : Str.empty.length = 0 := rfl; omega) _ fun H2 e2 => k _ H2 e2 rfl
end
/-! ### trips compared -/
def sLt (a b : Str) : Bool := decide (a.cps.toList < b.cps.toList)
def Tr.lt (t u : Tr) : Bool := decide (t.leaves < u.leaves) || (decide (t.leaves = u.leaves) && sLt t.name u.name)
def Tr.le (t u : Tr) : Bool := decide (t.leaves < u.leaves) || (decide (t.leaves = u.leaves) && !sLt u.name t.name)
def Tr.word (t : Tr) : Str := if t.stay = true then "stay" else "run"
section
variable {P : Program} {w : World} {K : PySem.W.Frag} {mg : Str → Option Value} {base : Heap}
theorem Fc.tins (G : Fc K mg) (s : Bool) : InsT K (cT K s) := by
  cases s
  · exact G.ins_Run
  · exact G.ins_Stay
theorem Fc.tkit (G : Fc K mg) (s : Bool) : PySem.W.kitOne K (.ref (cT K s)) (.ref (cTrip K)) = some true := by
  cases s
  · exact G.k_Run_Trip
  · exact G.k_Stay_Trip
theorem Fc.tword (G : Fc K mg) (t : Tr) : ∃ u, Con K (cT K t.stay) "WORD" (.str t.word) u := by
  unfold Tr.word
  cases t.stay
  · obtain ⟨t, h⟩ := G.w_Run
    exact ⟨_, h⟩
  · obtain ⟨t, h⟩ := G.w_Stay
    exact ⟨_, h⟩
theorem cp_isTrip (G : Fc K mg) {t : Tr} {H : Hp} : CP (rIsi K) [tripQ K t, is (.ref (cTrip K))] H (is (.bl true)) := cp_isi (G.tr _).cl (G.tins _) (G.tkit _)
def spTrip2 (K : PySem.W.Frag) (f : Tr → Tr → Bool) : Sp := fun vs H Q _ => ∃ (x y : V) (t u : Tr), vs = [x, y] ∧ tripQ K t x H ∧ tripQ K u y H ∧ ∀ H', Same H H' → Q (.bl (f t u)) H'
theorem sc_Trip_lt : FnScope ["self", "other"] ["self", "other"] (defScope s_Trip_lt) := ⟨rfl, rfl, rfl, by decide +kernel, rfl, by decide +kernel, by decide +kernel⟩
theorem ok_Trip_lt (G : Fc K mg) : Fn P w K mg base 1 (f_Trip_lt K) (spTrip2 K Tr.lt) := by
  refine fnA G.d_Trip_lt sc_Trip_lt (fun _ _ _ _ _ _ us hl => match us, hl with | [_, _], _ => rfl) (fun vs H Q h => ?_) (fun vs H Q E h => h) (fun cdv A outer s H vs Q hr h => ?_)
  · obtain ⟨x, y, t, u, rfl, _⟩ := h
    rfl
  · obtain ⟨x, y, t, u, rfl, hx, hy, k⟩ := h
    refine ⟨_, pss_cons (ps_if (pt_not (pt_val (pe_callB call_isi (by rfl) G.b_isinstance (by decide +kernel) (pa_cons (pv 1) (pa_cons (pe_glob (v := .ref (cTrip K)) (by rfl) G.g_Trip rfl) pa_nil))))) pss_never pss_nil)
      (pss_one (ps_ret (pe_or (pe_cmpR op_lt (pe_fld (pv 0) rfl) (pe_fld (pv 1) rfl) (nomark _)) (pe_one (pe_and (pe_cmpR op_eq (pe_fld (pv 0) rfl) (pe_fld (pv 1) rfl) (nomark _)) (pe_one (pe_cmpR op_lt_str (pe_fld (pv 0) rfl) (pe_fld (pv 1) rfl) (nomark _)))))))), ?_⟩
    have h0 : EvP (tVar 0) (start ["self", "other"] [x, y]) H (tripQ K t) := ev_var rfl hx
    have h1 : EvP (tVar 1) (start ["self", "other"] [x, y]) H (tripQ K u) := ev_var rfl hy
    refine s_skip (et_not (b := true) (et_B (ev_cb (ea_cons h1 (ea_cons ev_k ea_nil)) (cp_isTrip G)))) fun H2 e2 => ?_
    refine s_ret (EvP.mono e2 (ev_orV (ev_op (ev_tleaves G h0) (ev_tleaves G h1) rp_I0) fun _ => ev_andV (ev_op (ev_tleaves G h0) (ev_tleaves G h1) (rp_eq rfl)) fun _ => ev_op (ev_tname G h0) (ev_tname G h1) rp_ltS)) fun v H3 e3 hv => ?_
    subst hv
    have e : decide (V.int t.leaves = V.int u.leaves) = decide (t.leaves = u.leaves) := decide_eq_decide.mpr ⟨fun h => by injection h, fun h => by rw [h]⟩
    rw [e]
    exact k H3 (e2.trans e3)
theorem sc_Trip_le : FnScope ["self", "other"] ["self", "other"] (defScope s_Trip_le) := ⟨rfl, rfl, rfl, by decide +kernel, rfl, by decide +kernel, by decide +kernel⟩
theorem ok_Trip_le (G : Fc K mg) : Fn P w K mg base 1 (f_Trip_le K) (spTrip2 K Tr.le) := by
  refine fnA G.d_Trip_le sc_Trip_le (fun _ _ _ _ _ _ us hl => match us, hl with | [_, _], _ => rfl) (fun vs H Q h => ?_) (fun vs H Q E h => h) (fun cdv A outer s H vs Q hr h => ?_)
  · obtain ⟨x, y, t, u, rfl, _⟩ := h
    rfl
  · obtain ⟨x, y, t, u, rfl, hx, hy, k⟩ := h
    refine ⟨_, pss_cons (ps_if (pt_not (pt_val (pe_callB call_isi (by rfl) G.b_isinstance (by decide +kernel) (pa_cons (pv 1) (pa_cons (pe_glob (v := .ref (cTrip K)) (by rfl) G.g_Trip rfl) pa_nil))))) pss_never pss_nil)
      (pss_one (ps_ret (pe_or (pe_cmpR op_lt (pe_fld (pv 0) rfl) (pe_fld (pv 1) rfl) (nomark _)) (pe_one (pe_and (pe_cmpR op_eq (pe_fld (pv 0) rfl) (pe_fld (pv 1) rfl) (nomark _)) (pe_one (pe_cmpR op_le_str (pe_fld (pv 0) rfl) (pe_fld (pv 1) rfl) (nomark _)))))))), ?_⟩
    have h0 : EvP (tVar 0) (start ["self", "other"] [x, y]) H (tripQ K t) := ev_var rfl hx
    have h1 : EvP (tVar 1) (start ["self", "other"] [x, y]) H (tripQ K u) := ev_var rfl hy
    refine s_skip (et_not (b := true) (et_B (ev_cb (ea_cons h1 (ea_cons ev_k ea_nil)) (cp_isTrip G)))) fun H2 e2 => ?_
    refine s_ret (EvP.mono e2 (ev_orV (ev_op (ev_tleaves G h0) (ev_tleaves G h1) rp_I0) fun _ => ev_andV (ev_op (ev_tleaves G h0) (ev_tleaves G h1) (rp_eq rfl)) fun _ => ev_op (ev_tname G h0) (ev_tname G h1) rp_leS)) fun v H3 e3 hv => ?_
    subst hv
    have e : decide (V.int t.leaves = V.int u.leaves) = decide (t.leaves = u.leaves) := decide_eq_decide.mpr ⟨fun h => by injection h, fun h => by rw [h]⟩
    rw [e]
    exact k H3 (e2.trans e3)
theorem name_ok {z : Str} (h : nameOk z = true) : PyData.strOk z = true := by
  unfold nameOk at h
  rw [Bool.and_eq_true, Bool.and_eq_true] at h
  unfold PyData.strOk
  rw [← Array.all_toList]
  refine List.all_eq_true.mpr fun c hc => decide_eq_true ?_
  have := List.all_eq_true.mp h.2.2 c hc
  rw [Bool.and_eq_true, decide_eq_true_iff, decide_eq_true_iff] at this
  omega
/-- equal ones alone -/
def spSame (Φ : Tr → VQ) : Sp := fun vs H Q _ => ∃ (x y : V) (t : Tr), vs = [x, y] ∧ t.Ok ∧ Φ t x H ∧ Φ t y H ∧ ∀ H', Same H H' → Q (.bl true) H'
theorem rp_eqD4 {a b c d : V} {e : List PyData} (he : ∀ H, DpAll K H [a, b, c, d] e) (hs : SeqAt.shaped (.tuple e) = true) (hc : PyData.eqv (.tuple e) (.tuple e) = true) {H : Hp} : RP (rEqD K) (tupQ [is a, is b, is c, is d]) (tupQ [is a, is b, is c, is d]) H (is (.bl true)) := by
  rintro H1 _ x y ⟨p, vs, rfl, hp, hv⟩ ⟨q, ws, rfl, hq, hw⟩ Q k
  have e1 := all2_is (xs := [a, b, c, d]) hv
  have e2 := all2_is (xs := [a, b, c, d]) hw
  subst e1 e2
  refine ⟨_, _, .tup (SqT.of hp) (he H1), .tup (SqT.of hq) (he H1), hs, hs, ?_⟩
  rw [hc]
  exact k _ H1 (Same.refl H1) rfl
theorem sc_Trip_eq : FnScope ["self", "other"] ["self", "other"] (defScope s_Trip_eq) := ⟨rfl, rfl, rfl, by decide +kernel, rfl, by decide +kernel, by decide +kernel⟩
theorem ok_Trip_eq (G : Fc K mg) : Fn P w K mg base 1 (f_Trip_eq K) (spSame (tripQ K)) := by
  refine fnA G.d_Trip_eq sc_Trip_eq (fun _ _ _ _ _ _ us hl => match us, hl with | [_, _], _ => rfl) (fun vs H Q h => ?_) (fun vs H Q E h => h) (fun cdv A outer s H vs Q hr h => ?_)
  · obtain ⟨x, y, t, rfl, _⟩ := h
    rfl
  · obtain ⟨x, y, t, rfl, ok, hx, hy, k⟩ := h
    refine ⟨_, pss_cons (ps_if (PW.pt (pw_or (pt_not (pt_val (pe_callB call_isi (by rfl) G.b_isinstance (by decide +kernel) (pa_cons (pv 1) (pa_cons (pe_glob (v := .ref (cTrip K)) (by rfl) G.g_Trip rfl) pa_nil)))))
        (pw_or (pt_cmpR op_ne (pe_con (pv 0) rfl) (pe_con (pv 1) rfl) (nomark _)) (pw_or1 (pt_cmpR op_ne (pe_fld (pv 0) rfl) (pe_fld (pv 1) rfl) (nomark _)))))) pss_never pss_nil)
      (pss_one (ps_ret (pe_cmpR (op_eqD hr.units) (pe_tup (pa_cons (pe_fld (pv 0) rfl) (pa_cons (pe_fld (pv 0) rfl) (pa_cons (pe_fld (pv 0) rfl) (pa_cons (pe_fld (pv 0) rfl) pa_nil))))) (pe_tup (pa_cons (pe_fld (pv 1) rfl) (pa_cons (pe_fld (pv 1) rfl) (pa_cons (pe_fld (pv 1) rfl) (pa_cons (pe_fld (pv 1) rfl) pa_nil))))) (nomark _)))), ?_⟩
    have h0 : EvP (tVar 0) (start ["self", "other"] [x, y]) H (tripQ K t) := ev_var rfl hx
    have h1 : EvP (tVar 1) (start ["self", "other"] [x, y]) H (tripQ K t) := ev_var rfl hy
    obtain ⟨u, hu⟩ := G.tword t
    have nw : t.flds.lookup ("WORD" : Str) = none := by unfold Tr.flds; rfl
    refine s_skip (et_eq (et_or (et_not (b := true) (et_B (ev_cb (ea_cons h1 (ea_cons ev_k ea_nil)) (cp_isTrip G)))) fun _ =>
      et_or (et_test (ev_op (ev_con h0 (G.tr _).cl hu nw) (ev_con h1 (G.tr _).cl hu nw) (rp_ne rfl))) fun _ => et_test (ev_op (ev_tname G h0) (ev_tname G h1) (rp_ne rfl))) (by simp)) fun H2 e2 => ?_
    refine s_ret (EvP.mono e2 (ev_op (ev_tup (ea_cons (ev_tstart G h0) (ea_cons (ev_tleaves G h0) (ea_cons (ev_ttakes G h0) (ea_cons (ev_tgoal G h0) ea_nil))))) (ev_tup (ea_cons (ev_tstart G h1) (ea_cons (ev_tleaves G h1) (ea_cons (ev_ttakes G h1) (ea_cons (ev_tgoal G h1) ea_nil)))))
      (rp_eqD4 (e := [.str t.start, .int t.leaves, .int t.takes, .str t.goal]) (fun H => .cons (.str _) (.cons (.int _) (.cons (.int _) (.cons (.str _) .nil)))) (by simp [SeqAt.shaped, PyData.canLay0, PyData.canLayAll0, PyData.depth, PyData.depthAll, name_ok ok.start, name_ok ok.goal]) (by simp [PyData.eqv, PyData.eqvAll])))) fun v H3 e3 hv => ?_
    subst hv
    exact k H3 (e2.trans e3)
/-! ### told -/
def Tr.parts (t : Tr) : List Str := if t.stay = true then [t.word, " ", t.name, " ", t.start, " ", toString t.leaves, " ", toString t.takes] else [t.word, " ", t.name, " ", t.start, " ", toString t.leaves, " ", toString t.takes, " ", t.goal]
def Tr.text (t : Tr) : Str := catS Str.empty t.parts
def spTell (K : PySem.W.Frag) (b : Bool) : Sp := fun vs H Q _ => ∃ (x : V) (t : Tr), t.stay = b ∧ vs = [x] ∧ tripQ K t x H ∧ t.Ok ∧ ∀ H', Same H H' → Q (.str t.text) H'
theorem sc_Trip_str : FnScope ["self"] ["self"] (defScope s_Trip_str) := ⟨rfl, rfl, rfl, by decide +kernel, rfl, by decide +kernel, by decide +kernel⟩
theorem sc_Run_str : FnScope ["self"] ["self"] (defScope s_Run_str) := ⟨rfl, rfl, rfl, by decide +kernel, rfl, by decide +kernel, by decide +kernel⟩
theorem name_len {z : Str} (h : nameOk z = true) : 1 ≤ z.length ∧ z.length ≤ 8 := by
  unfold nameOk at h
  rw [Bool.and_eq_true, Bool.and_eq_true, decide_eq_true_iff, decide_eq_true_iff] at h
  exact ⟨h.1, h.2.1⟩
theorem toStr_len {i : Int} (h0 : 0 ≤ i) (h : i ≤ 1000000000000) : (toString i : Str).length ≤ 13 := by
  have h1 := PySem.digits_le h0 (k := 13) (by decide) (by omega)
  obtain ⟨n, rfl⟩ := Int.eq_ofNat_of_zero_le h0
  have e : (Str.ofString (toString (n : Int))).length = (TL.numL n).length := by
    rw [← TL.tl_num n]
    show (Str.ofString (toString (n : Int))).cps.size = _
    exact (Array.length_toList).symm
  show (Str.ofString (toString (n : Int))).length ≤ 13
  rw [e]
  unfold TL.numL
  unfold PySem.asciiBytes at h1
  rw [List.length_map, String.length_toList] at h1
  rw [List.length_map]
  have e2 : (toString (n : Int)).length = (Nat.toDigits 10 n).length := by
    show (Nat.repr n).length = _
    unfold Nat.repr
    simp
  rw [← e2]
  exact h1
theorem ok_Trip_str (G : Fc K mg) : Fn P w K mg base 1 (f_Trip_str K) (spTell K true) := by
  refine fnA G.d_Trip_str sc_Trip_str (fun _ _ _ _ _ _ us hl => match us, hl with | [_], _ => rfl) (fun vs H Q h => ?_) (fun vs H Q E h => h) (fun cdv A outer s H vs Q hr h => ?_)
  · obtain ⟨x, t, _, rfl, _⟩ := h
    rfl
  · obtain ⟨x, t, hb, rfl, hx, ok, k⟩ := h
    refine ⟨_, pss_one (ps_ret (pe_joined (.cons (pe_fmt (pe_con (pv 0) rfl)) (.cons pe_str (.cons (pe_fmt (pe_fld (pv 0) rfl)) (.cons pe_str (.cons (pe_fmt (pe_fld (pv 0) rfl)) (.cons pe_str (.cons (pe_fmt (pe_fld (pv 0) rfl)) (.cons pe_str (.cons (pe_fmt (pe_fld (pv 0) rfl)) .nil))))))))))), ?_⟩
    have h0 : EvP (tVar 0) (start ["self"] [x]) H (tripQ K t) := ev_var rfl hx
    obtain ⟨u, hu⟩ := G.tword t
    have nw : t.flds.lookup ("WORD" : Str) = none := by unfold Tr.flds; rfl
    have wl : t.word.length ≤ 10 := by unfold Tr.word; split <;> decide
    have n1 := name_len ok.name
    have n2 := name_len ok.start
    have n3 := toStr_len ok.l0 ok.l1
    have n4 := toStr_len (by have := ok.t0; omega) ok.t1
    have o1 := ok.l0
    have o2 := ok.l1
    have o3 := ok.t0
    have o4 := ok.t1
    refine EvP.run (ev_joined (.cons (ev_fmtS (ev_con h0 (G.tr _).cl hu nw) (by omega)) (.cons ev_k (.cons (ev_fmtS (ev_tname G h0) (by omega)) (.cons ev_k (.cons (ev_fmtS (ev_tstart G h0) (by omega)) (.cons ev_k (.cons (ev_fmtI (ev_tleaves G h0) (Nat.lt_of_lt_of_le (m := 2 ^ 60) (by omega) (by decide))) (.cons ev_k (.cons (ev_fmtI (ev_ttakes G h0) (Nat.lt_of_lt_of_le (m := 2 ^ 60) (by omega) (by decide))) .nil))))))))) ?_) fun v H2 e h2 => ?_
    · have s1 : ((" " : Str)).length = 1 := rfl
      simp only [List.map_cons, List.map_nil, List.sum_cons, List.sum_nil, s1]
      omega
    · subst h2
      have e1 : t.text = catS Str.empty [t.word, " ", t.name, " ", t.start, " ", toString t.leaves, " ", toString t.takes] := by unfold Tr.text Tr.parts; rw [if_pos hb]
      have := k H2 e
      rw [e1] at this
      exact this
theorem ok_Run_str (G : Fc K mg) : Fn P w K mg base 1 (f_Run_str K) (spTell K false) := by
  refine fnA G.d_Run_str sc_Run_str (fun _ _ _ _ _ _ us hl => match us, hl with | [_], _ => rfl) (fun vs H Q h => ?_) (fun vs H Q E h => h) (fun cdv A outer s H vs Q hr h => ?_)
  · obtain ⟨x, t, _, rfl, _⟩ := h
    rfl
  · obtain ⟨x, t, hb, rfl, hx, ok, k⟩ := h
    refine ⟨_, pss_one (ps_ret (pe_joined (.cons (pe_fmt (pe_con (pv 0) rfl)) (.cons pe_str (.cons (pe_fmt (pe_fld (pv 0) rfl)) (.cons pe_str (.cons (pe_fmt (pe_fld (pv 0) rfl)) (.cons pe_str (.cons (pe_fmt (pe_fld (pv 0) rfl)) (.cons pe_str (.cons (pe_fmt (pe_fld (pv 0) rfl)) (.cons pe_str (.cons (pe_fmt (pe_fld (pv 0) rfl)) .nil))))))))))))), ?_⟩
    have h0 : EvP (tVar 0) (start ["self"] [x]) H (tripQ K t) := ev_var rfl hx
    obtain ⟨u, hu⟩ := G.tword t
    have nw : t.flds.lookup ("WORD" : Str) = none := by unfold Tr.flds; rfl
    have wl : t.word.length ≤ 10 := by unfold Tr.word; split <;> decide
    have n1 := name_len ok.name
    have n2 := name_len ok.start
    have n5 := name_len ok.goal
    have n3 := toStr_len ok.l0 ok.l1
    have n4 := toStr_len (by have := ok.t0; omega) ok.t1
    have o1 := ok.l0
    have o2 := ok.l1
    have o3 := ok.t0
    have o4 := ok.t1
    refine EvP.run (ev_joined (.cons (ev_fmtS (ev_con h0 (G.tr _).cl hu nw) (by omega)) (.cons ev_k (.cons (ev_fmtS (ev_tname G h0) (by omega)) (.cons ev_k (.cons (ev_fmtS (ev_tstart G h0) (by omega)) (.cons ev_k (.cons (ev_fmtI (ev_tleaves G h0) (Nat.lt_of_lt_of_le (m := 2 ^ 60) (by omega) (by decide))) (.cons ev_k (.cons (ev_fmtI (ev_ttakes G h0) (Nat.lt_of_lt_of_le (m := 2 ^ 60) (by omega) (by decide))) (.cons ev_k (.cons (ev_fmtS (ev_tgoal G h0) (by omega)) .nil))))))))))) ?_) fun v H2 e h2 => ?_
    · have s1 : ((" " : Str)).length = 1 := rfl
      simp only [List.map_cons, List.map_nil, List.sum_cons, List.sum_nil, s1]
      omega
    · subst h2
      have e1 : t.text = catS Str.empty [t.word, " ", t.name, " ", t.start, " ", toString t.leaves, " ", toString t.takes, " ", t.goal] := by unfold Tr.text Tr.parts; rw [if_neg (by rw [hb]; decide)]
      have := k H2 e
      rw [e1] at this
      exact this
end
end K22

set_option Elab.async false
set_option linter.all false
set_option maxRecDepth 100000
set_option maxHeartbeats 4000000
/-! C5: words of a text. -/
namespace K22
open PySem PySem.Spec PyProof.Rows L2
section
variable {K : PySem.W.Frag} {H : Hp} {σ : L2.St} {te : TE}
def rLenQ (K : PySem.W.Frag) : List V → Hp → VK → Prop := fun xs H Q => ∃ p ys, xs = [.ref p] ∧ (SqL K H p ys ∨ SqT K H p ys) ∧ Q (.int ys.length) H
theorem cp_len {l : Addr} {xs : List V} (h : H l = some (.lst xs)) : CP (rLenQ K) [is (.ref l)] H (is (.int xs.length)) := fun H1 e vs hv Q k => by
  have ev := all2_is (xs := [.ref l]) hv
  subst ev
  exact ⟨l, xs, rfl, .inl (SqL.of (e _ _ h)), k _ H1 (Same.refl H1) rfl⟩
theorem cp_lenT {l : Addr} {xs : List V} (h : H l = some (.tup xs)) : CP (rLenQ K) [is (.ref l)] H (is (.int xs.length)) := fun H1 e vs hv Q k => by
  have ev := all2_is (xs := [.ref l]) hv
  subst ev
  exact ⟨l, xs, rfl, .inr (SqT.of (e _ _ h)), k _ H1 (Same.refl H1) rfl⟩
theorem rp_ixL {l : Addr} {xs : List V} {i : Int} {v : V} (h : H l = some (.lst xs)) (ha : atI xs i = some v) : RP (rIxL K) (is (.ref l)) (is (.int i)) H (is v) := fun H1 e x y hx hy Q k => by
  cases hx; cases hy
  exact ⟨l, xs, i, v, rfl, rfl, SqL.of (e _ _ h), ha, k _ H1 (Same.refl H1) rfl⟩
theorem rp_ixT {l : Addr} {xs : List V} {i : Int} {v : V} (h : H l = some (.tup xs)) (ha : atI xs i = some v) : RP (rIxT K) (is (.ref l)) (is (.int i)) H (is v) := fun H1 e x y hx hy Q k => by
  cases hx; cases hy
  exact ⟨l, xs, i, v, rfl, rfl, SqT.of (e _ _ h), ha, k _ H1 (Same.refl H1) rfl⟩
end
theorem set_get {σ : L2.St} {j : Nat} {x : Option V} (h : j < σ.length) : (σ.set j x)[j]? = some x := by simp [h]
/-- all([sign in z for sign in value]) -/
theorem ev_allIn {K : PySem.W.Frag} {H : Hp} {σ : L2.St} {i j : Nat} {y z : Str} (h0 : (σ.set j none)[i]? = some (some (.str y))) (hi : σ[i]? = some (some (.str y))) (hj : j < σ.length) (hall : y.cps.toList.all (fun c => decide (c ∈ z.cps.toList)) = true) (hsz : y.length ≤ 1000) :
    EvP (tCB (rAll K) (tCons (tLc (iStr (tVar i)) (gName j) tYes (tOp (fun x y H Q => ∃ (c : Nat) (z : Str), x = .str ⟨#[c]⟩ ∧ y = .str z ∧ Q (.bl (decide (c ∈ z.cps.toList))) H) (tVar j) (tC (.str z))) [j]) tNil)) σ H (is (.bl true)) := by
  intro H1 _ Q k
  refine ⟨_, hi, y, rfl, fun D hD => ?_⟩
  refine lc_it (walk_str (z := y)) (fun n H' => Same H1 H' ∧ H' D = some (.lst ((List.replicate n true).map V.bl))) ⟨same_new hD, upd_same⟩ (fun _ _ _ _ => trivial) ?_ ?_
  · rintro n x H2 H3 hn ⟨sm, hd⟩ ⟨rfl, c, hc, rfl⟩
    refine ⟨by simp [wipe, List.set_set], ?_⟩
    refine ⟨_, set_get (by simp [wipe, hj]), c, z, rfl, rfl, ?_⟩
    have hm : c ∈ y.cps.toList := by
      rw [← Array.getElem?_toList] at hc
      exact List.mem_of_getElem? hc
    have e := List.all_eq_true.mp hall c hm
    rw [e]
    refine ⟨_, hd, ?_, same_mut sm hD, ?_⟩
    · rw [List.length_map, List.length_replicate]
      have : y.cps.size = y.length := rfl
      exact small1000 (by omega)
    · rw [upd_same, List.replicate_succ', List.map_append]
      rfl
  · rintro H2 ⟨sm, hd⟩
    refine ⟨D, List.replicate y.cps.size true, rfl, SqL.of hd, ?_⟩
    have e : (List.replicate y.cps.size true).all id = true := by simp
    rw [e]
    exact k _ H2 sm rfl
theorem et_chain {σ : L2.St} {H : Hp} {ta tb tc : TE} {b c : Bool} {r r' : R2} {A B C : VQ} [Mono A] [mB : Mono B] (ha : EvP ta σ H A) (hb : EvP tb σ H B) (hc : b = true → EvP tc σ H C) (h1 : RP r A B H (is (.bl b))) (h2 : RP r' B C H (is (.bl c))) : EvP (tChain r r' ta tb tc) σ H (is (.bl (b && c))) := fun H1 e Q k =>
  ha H1 e _ fun x H2 e2 hx => hb H2 (e.trans e2) _ fun y H3 e3 hy => h1 H3 ((e.trans e2).trans e3) x y (Mono.mono e3 hx) hy _ fun v H4 e4 hv => ⟨b, hv, by
    cases b with
    | true => exact hc rfl H4 (((e.trans e2).trans e3).trans e4) _ fun w H5 e5 hw => h2 H5 ((((e.trans e2).trans e3).trans e4).trans e5) y w (mB.mono (e4.trans e5) hy) hw Q fun v H6 e6 h6 => k v H6 ((((e2.trans e3).trans e4).trans e5).trans e6) h6
    | false => exact k _ H4 ((e2.trans e3).trans e4) rfl⟩
theorem cp_lenS {z : Str} {H : Hp} (h : z.length ≤ 100000) : CP (fun xs H Q => ∃ z, xs = [.str z] ∧ z.length ≤ sizeLine ∧ Q (.int z.length) H) [is (.str z)] H (is (.int z.length)) := fun H1 _ vs hv Q k => by
  have ev := all2_is (xs := [.str z]) hv
  subst ev
  exact ⟨z, rfl, Nat.le_trans h (by decide), k _ H1 (Same.refl H1) rfl⟩
theorem rp_ixS {z : Str} {i : Int} {c : Nat} {H : Hp} (h : z.length ≤ 100000) (ha : atI z.cps.toList i = some c) : RP rIxS (is (.str z)) (is (.int i)) H (is (.str ⟨#[c]⟩)) := fun H1 _ x y hx hy Q k => by
  cases hx; cases hy
  exact ⟨z, i, c, rfl, rfl, Nat.le_trans h (by decide), ha, k _ H1 (Same.refl H1) rfl⟩
theorem cp_intS {z : Str} {n : Int} {H : Hp} (h : PySem.intText? z = some n) (hl : z.length ≤ 640) : CP (fun xs H Q => ∃ a n, xs = [.str a] ∧ PySem.intText? a = some n ∧ a.length ≤ 640 ∧ Q (.int n) H) [is (.str z)] H (is (.int n)) := fun H1 _ vs hv Q k => by
  have ev := all2_is (xs := [.str z]) hv
  subst ev
  exact ⟨z, n, rfl, h, hl, k _ H1 (Same.refl H1) rfl⟩
/-! ### number_in -/
def numS (i : Int) : Str := Str.ofString (toString i)
def spNumIn : Sp := fun vs H Q _ => ∃ i a b : Int, vs = [.str (numS i), .int a, .int b] ∧ 0 ≤ i ∧ i ≤ 1000000000000 ∧ a ≤ i ∧ i ≤ b ∧ ∀ H', Same H H' → Q (.int i) H'
theorem numS_tl {n : Nat} : (numS n).cps.toList = TL.numL n := TL.tl_num n
theorem numL_head (n : Nat) : ∃ c r, TL.numL n = c :: r ∧ (c = 48 → TL.numL n = [48]) := by
  induction n using Nat.strongRecOn with
  | _ n ih =>
    by_cases h : n < 10
    · rw [TL.numL_lt h]
      exact ⟨48 + n, [], rfl, fun e => by rw [e]⟩
    · obtain ⟨c, r, e, he⟩ := ih (n / 10) (by omega)
      rw [TL.numL_step (by omega), e]
      refine ⟨c, r ++ [48 + n % 10], rfl, fun hc => ?_⟩
      have := he hc
      have e0 : TL.numL 0 = [48] := by rw [TL.numL_lt (by decide)]
      have := TL.numL_inj (this.trans e0.symm)
      omega
theorem digits_in {c : Nat} (h : 48 ≤ c ∧ c ≤ 57) : c ∈ ("0123456789" : Str).cps.toList := by
  have e : ∀ n, n < 10 → (n + 48) ∈ ("0123456789" : Str).cps.toList := by decide +kernel
  have := e (c - 48) (by omega)
  rwa [show c - 48 + 48 = c by omega] at this
section
variable {P : Program} {w : World} {K : PySem.W.Frag} {mg : Str → Option Value} {base : Heap}
theorem sc_number_in : FnScope ["word", "least", "most", "found", "sign"] ["word", "least", "most"] (defScope s_number_in) := ⟨rfl, rfl, rfl, by decide +kernel, rfl, by decide +kernel, by decide +kernel⟩
theorem ok_number_in (G : Fc K mg) : Fn P w K mg base 1 (f_number_in K) spNumIn := by
  refine fnA G.d_number_in sc_number_in (fun _ _ _ _ _ _ us hl => match us, hl with | [_, _, _], _ => rfl) (fun vs H Q h => ?_) (fun vs H Q E h => h) (fun cdv A outer s H vs Q hr h => ?_)
  · obtain ⟨i, a, b, rfl, _⟩ := h
    rfl
  · obtain ⟨i, a, b, rfl, h0, h1, ha, hb, k⟩ := h
    have nd := sc_number_in.nd
    refine ⟨_, pss_cons (ps_if (PW.pt (pw_or (pt_not (pt_chain op_le op_le pe_int (pe_callB call_len_str (by rfl) G.b_len PySem.boot_len (pa_cons (pv 0) pa_nil)) pe_int))
        (pw_or1 (pt_not (pt_val (pe_callB (cr_all rfl) (by rfl) G.b_all (by decide +kernel) (pa_cons (pe_lc (own := [("sign", 4)]) (g := gName 4) (by rfl) nd (pi_str (pv 0)) (blkOk_by (own := [("sign", 4)]) (N := ["word", "least", "most", "found", "sign"]) (sc := defScope s_number_in) (by decide +kernel))
        (fun _ _ _ _ _ => pg_name (i := 4) nd rfl (Or.inl rfl)) (fun _ _ _ _ _ => pts_nil) (fun _ _ _ _ _ => pe_cmpR op_in_sign (pv 4) pe_str (by rfl))) pa_nil))))))) pss_never pss_nil)
      (pss_cons (ps_if (PW.pt (pw_and (pt_cmpR op_eq (pe_ix ix_str (pv 0) pe_int (fun _ _ => rfl)) pe_str (nomark _)) (pw_and1 (pt_cmpR op_ne (pv 0) pe_str (nomark _))))) pss_never pss_nil)
      (pss_cons (ps_set (i := 3) nd rfl (Or.inl rfl) (pe_callTy call_int_str (by rfl) G.b_int (by decide +kernel) (pa_cons (pv 0) pa_nil)))
      (pss_one (ps_ret (pe_ifExp (pt_chain op_le op_le (pv 1) (pv 3) (pv 2)) (pv 3) pe_non))))), ?_⟩
    obtain ⟨n, rfl⟩ := Int.eq_ofNat_of_zero_le h0
    have hl : (numS n).length = (TL.numL n).length := by rw [← numS_tl]; exact TL.len_tl _
    have l13 : (numS n).length ≤ 13 := by rw [hl]; exact TL.numL_len (by decide) (by omega)
    obtain ⟨c, r, hc, hc0⟩ := numL_head n
    have l1 : 1 ≤ (numS n).length := by rw [hl, hc, List.length_cons]; omega
    have hat : atI (numS n).cps.toList 0 = some c := by rw [numS_tl, hc]; exact atI_nat rfl
    have hall : (numS n).cps.toList.all (fun c => decide (c ∈ ("0123456789" : Str).cps.toList)) = true := by
      rw [numS_tl]
      refine List.all_eq_true.mpr fun d hd => decide_eq_true (digits_in ?_)
      exact TL.numL_digits n d hd
    have hint : PySem.intText? (numS n) = some (n : Int) := TL.int_num (by rw [← hl]; omega)
    have e1 : decide ((1 : Int) ≤ ((numS n).length : Int)) = true := decide_eq_true (by omega)
    have e2 : decide (((numS n).length : Int) ≤ 13) = true := decide_eq_true (by omega)
    have hs : (start ["word", "least", "most", "found", "sign"] [.str (numS n), .int a, .int b])[0]? = some (some (.str (numS n))) := rfl
    refine s_skip (et_eq (et_or (et_not (et_test (et_chain ev_k (ev_cb (ea_cons (ev_v hs) ea_nil) (cp_lenS (by omega))) (fun _ => ev_k) rp_I0 rp_I0))) fun _ => et_not (et_B (ev_allIn (i := 0) (j := 4) rfl hs (by show 4 < 5; omega) hall (by omega)))) (by rw [e1, e2]; rfl)) fun H1 s1 => ?_
    have hz : (decide (V.str ⟨#[c]⟩ = V.str "0") && !decide (V.str (numS n) = V.str "0")) = false := by
      by_cases q : c = 48
      · have e3 : numS n = "0" := TL.ext_tl (by rw [show TL.tl (numS n) = TL.numL n from numS_tl, hc0 q]; decide)
        rw [e3]
        simp
      · have : ¬ (V.str ⟨#[c]⟩ = V.str "0") := fun z => q (by
          injection z with z
          have := congrArg TL.tl z
          have e0 : TL.tl ("0" : Str) = [48] := by decide +kernel
          rw [e0] at this
          simpa [TL.tl] using this)
        rw [decide_eq_false this]
        rfl
    refine s_skip (et_eq (et_and (et_test (ev_op (ev_op (ev_v hs) ev_k (rp_ixS (by omega) hat)) ev_k (rp_eq rfl))) fun _ => et_test (ev_op (ev_v hs) ev_k (rp_ne rfl))) hz) fun H2 s2 => ?_
    refine s_set (ev_cb (ea_cons (ev_v hs) ea_nil) (cp_intS hint (by omega))) fun v H3 s3 hv => ?_
    subst hv
    refine s_ret (ev_if (b := true) (et_eq (et_test (et_chain (ev_v rfl) (ev_v rfl) (fun _ => ev_v rfl) rp_I0 rp_I0)) (by rw [decide_eq_true ha, decide_eq_true hb]; rfl)) (fun _ => ev_v rfl) (fun z => by cases z)) fun v H4 s4 hv => ?_
    subst hv
    exact k H4 (((s1.trans s2).trans s3).trans s4)
/-! ### words -/
/-- at a the words ws, the next one the s-th -/
def WAt (K : PySem.W.Frag) (H : Hp) (a : Addr) (ws : List Str) (s : Nat) : Prop := ∃ dx l, l ≠ a ∧ H a = some (.ins (cWords K) dx [("line", .int 0), ("words", .ref l), ("spot", .int s)]) ∧ H l = some (.lst (ws.map V.str))
def blankFree (z : Str) : Bool := z.cps.toList.all fun c => decide (c ≠ 32)
def spWordsInit (K : PySem.W.Frag) : Sp := fun vs H Q _ => ∃ (x dx : Addr) (ws : List Str), vs = [.ref x, .int 0, .str (Str.join " " ws)] ∧ H x = some (.ins (cWords K) dx []) ∧ ws ≠ [] ∧ (∀ z ∈ ws, blankFree z = true) ∧ (Str.join " " ws).length ≤ 100000 ∧
  ∀ H', KeepX x H H' → WAt K H' x ws 0 → Q .non H'
theorem sc_Words_init : FnScope ["self", "line", "text"] ["self", "line", "text"] (defScope s_Words_init) := ⟨rfl, rfl, rfl, by decide +kernel, rfl, by decide +kernel, by decide +kernel⟩
theorem flds3 (a b c : V) : putF "spot" c (putF "words" b (putF "line" a [])) = ([("line", a), ("words", b), ("spot", c)] : List (Str × V)) := by
  have h1 : ¬ (("line" : Str) = "words") := by decide +kernel
  have h2 : ¬ (("line" : Str) = "spot") := by decide +kernel
  have h3 : ¬ (("words" : Str) = "spot") := by decide +kernel
  simp only [putF, if_neg h1, if_neg h2, if_neg h3]
theorem flds3' (a b c d : V) : putF "spot" d ([("line", a), ("words", b), ("spot", c)] : List (Str × V)) = ([("line", a), ("words", b), ("spot", d)] : List (Str × V)) := by
  have h2 : ¬ (("line" : Str) = "spot") := by decide +kernel
  have h3 : ¬ (("words" : Str) = "spot") := by decide +kernel
  simp only [putF, if_neg h2, if_neg h3, if_true]
theorem ok_Words_init (G : Fc K mg) : Fn P w K mg base 1 (f_Words_init K) (spWordsInit K) := by
  refine fnA G.d_Words_init sc_Words_init (fun _ _ _ _ _ _ us hl => match us, hl with | [_, _, _], _ => rfl) (fun vs H Q h => ?_) (fun vs H Q E h => h) (fun cdv A outer s H vs Q hr h => ?_)
  · obtain ⟨x, dx, ws, rfl, _⟩ := h
    rfl
  · obtain ⟨x, dx, ws, rfl, hx, hne, hb, hl, k⟩ := h
    refine ⟨_, pss_cons (ps_fld (pv 0) (pv 1) rfl) (pss_cons (ps_fld (pv 0) (pe_split (pv 2) pe_str) rfl) (pss_one (ps_fld (pv 0) pe_int rfl))), ?_⟩
    refine ⟨_, rfl, _, rfl, x, cWords K, dx, _, rfl, hx, G.c_Words, G.n_Words_line, pl0, ?_⟩
    have hs : Txt.split (Str.join " " ws) " " = ws := by
      rw [← TL.join_eq]
      refine TL.split_join (s := 32) (S := []) (by decide +kernel) (by decide +kernel) hne fun z hz hm => ?_
      have := List.all_eq_true.mp (hb z hz) 32 hm
      simp at this
    refine ⟨_, rfl, ⟨_, rfl⟩, _, _, rfl, rfl, by decide, ?_, ?_⟩
    · exact Nat.le_trans (m := 100002) (by omega) (by decide)
    intro l hl
    rw [hs]
    have nx : l ≠ x := by
      rintro rfl
      rw [upd_same] at hl
      cases hl
    refine ⟨_, rfl, x, cWords K, dx, _, rfl, by rw [upd_ne nx.symm]; exact upd_same, G.c_Words, G.n_Words_words, pq1, ?_⟩
    refine ⟨_, rfl, x, cWords K, dx, _, rfl, upd_same, G.c_Words, G.n_Words_spot, pq2, ?_⟩
    refine k _ (KeepX.put (KeepX.put ?_)) ⟨dx, l, nx, by rw [upd_same, flds3]; rfl, ?_⟩
    · intro b o hb ho
      have h1 : (upd H x (.ins (cWords K) dx (putF "line" (.int 0) []))) b = some o := by rw [upd_ne hb]; exact ho
      rw [upd_ne (by rintro rfl; rw [h1] at hl; cases hl)]
      exact h1
    · rw [upd_ne nx, upd_ne nx, upd_same]
def spNext (K : PySem.W.Frag) : Sp := fun vs H Q _ => ∃ (a : Addr) (ws : List Str) (s : Nat), vs = [.ref a] ∧ WAt K H a ws s ∧ ∀ H', Same H H' → Q (match ws[s]? with | some z => .str z | none => .non) H'
theorem sc_Words_next_word : FnScope ["self"] ["self"] (defScope s_Words_next_word) := ⟨rfl, rfl, rfl, by decide +kernel, rfl, by decide +kernel, by decide +kernel⟩
theorem ok_Words_next (G : Fc K mg) : Fn P w K mg base 1 (f_Words_next_word K) (spNext K) := by
  refine fnA G.d_Words_next_word sc_Words_next_word (fun _ _ _ _ _ _ us hl => match us, hl with | [_], _ => rfl) (fun vs H Q h => ?_) (fun vs H Q E h => h) (fun cdv A outer s H vs Q hr h => ?_)
  · obtain ⟨x, ws, s, rfl, _⟩ := h
    rfl
  · obtain ⟨a, ws, s, rfl, ⟨dx, l, nx, ha, hl⟩, k⟩ := h
    refine ⟨_, pss_one (ps_ret (pe_ifExp (pt_cmpR op_lt (pe_fld (pv 0) rfl) (pe_callB call_len_seq (by rfl) G.b_len PySem.boot_len (pa_cons (pe_fld (pv 0) rfl) pa_nil)) (nomark _)) (pe_ix ix_list (pe_fld (pv 0) rfl) (pe_fld (pv 0) rfl) (fun _ _ => rfl)) pe_non)), ?_⟩
    have h0 : EvP (tVar 0) (start ["self"] [.ref a]) H (insQ (cWords K) [("line", .int 0), ("words", .ref l), ("spot", .int s)]) := ev_var rfl ⟨a, dx, rfl, ha⟩
    have hw := ev_fld h0 G.c_Words G.n_Words_words rfl
    have hs := ev_fld h0 G.c_Words G.n_Words_spot rfl
    refine s_ret (ev_if (Φ := is (match ws[s]? with | some z => .str z | none => .non)) (b := decide ((s : Int) < ((ws.map V.str).length : Nat))) (et_test (ev_op hs (ev_cb (ea_cons hw ea_nil) (cp_len hl)) rp_I0)) (fun q => ?_) fun q => ?_) fun v H2 e hv => by rw [show v = _ from hv]; exact k H2 e
    · have hlt : s < ws.length := by
        have := of_decide_eq_true q
        rw [List.length_map] at this
        omega
      refine ev_op hw hs (rp_ixL hl ?_)
      rw [List.getElem?_eq_getElem hlt]
      exact atI_nat (by simp [hlt])
    · have hge : ws.length ≤ s := by
        have := of_decide_eq_false q
        rw [List.length_map] at this
        omega
      rw [List.getElem?_eq_none hge]
      exact ev_k
/-! ### taking -/
theorem s_fld {σ : L2.St} {H : Hp} {i : Nat} {a C dx : Addr} {fs : List (Str × V)} {f : Str} {y : V} {tv : TE} {u : TS} {D : Ends} (hi : σ[i]? = some (some (.ref a))) (ha : H a = some (.ins C dx fs)) (cl : Cls K C) (na : NoAttr K C f) (len : fs.length < 1000)
    (hv : EvP tv σ H (is y)) (k : ∀ H2, Same H H2 → u D σ (upd H2 a (.ins C dx (putF f y fs)))) : tSeq (sFld K (tVar i) tv f) u D σ H := hv H (Same.refl H) _ fun v H2 e2 h2 => ⟨_, hi, a, C, dx, fs, rfl, e2 _ _ ha, cl, na, len, by
  cases h2
  exact k H2 e2⟩
/-- o.m(..) evaluates -/
def MethP (X : Cx) (n : Nat) (m : Str) (A : VQ) (As : List VQ) (H : Hp) (Φ : VQ) : Prop := ∀ H1, Same H H1 → ∀ x, A x H1 → ∃ a C dx fs f k sp, x = .ref a ∧ H1 a = some (.ins C dx fs) ∧ Cls X.K C ∧ Meth X.K C m f ∧ fs.lookup m = none ∧ FnX X k f sp ∧ k ≤ n ∧
  ∀ H2, Same H1 H2 → ∀ vs, All2 As vs H2 → ∀ Q : VK, (∀ v H3, Same H2 H3 → Φ v H3 → Q v H3) → sp (.ref a :: vs) H2 Q E0
theorem ev_m {X : Cx} {n : Nat} {m : Str} {A Φ : VQ} {As : List VQ} {to : TE} {t : TA} {σ : L2.St} {H : Hp} (ho : EvP to σ H A) (ha : EaP t σ H As) (hm : MethP X n m A As H Φ) : EvP (tM X n m to t) σ H Φ := fun H1 e Q k =>
  ho H1 e _ fun x H2 e2 hx => by
    obtain ⟨a, C, dx, fs, f, j, sp, ex, hc, cl, M, nl, F, hk, hs⟩ := hm H2 (e.trans e2) x hx
    exact ⟨a, C, dx, fs, f, j, sp, ex, hc, cl, M, nl, F, hk, ha H2 (e.trans e2) _ fun vs H3 e3 hv => hs H3 e3 vs hv Q fun v H4 e4 h4 => k v H4 ((e2.trans e3).trans e4) h4⟩
theorem mp_next {X : Cx} {n : Nat} {a : Addr} {ws : List Str} {s : Nat} (G : Fc X.K mg) (hX : X.prog = P ∧ X.w = w ∧ X.mg = mg) (h : WAt X.K H a ws s) (hk : 1 ≤ n := by decide) : MethP X n "next_word" (is (.ref a)) [] H (is (match ws[s]? with | some z => .str z | none => .non)) := by
  obtain ⟨rfl, rfl, rfl⟩ := hX
  obtain ⟨dx, l, nx, ha, hl⟩ := id h
  intro H1 e x hx
  cases hx
  refine ⟨a, _, dx, _, _, 1, spNext X.K, rfl, e _ _ ha, G.c_Words, G.h_Words_next_word, by rfl, ok_Words_next G, hk, fun H2 e2 vs hv Q k => ?_⟩
  cases hv
  exact ⟨a, ws, s, rfl, ⟨dx, l, nx, e2 _ _ (e _ _ ha), e2 _ _ (e _ _ hl)⟩, fun H3 e3 => k _ H3 e3 rfl⟩
theorem WAt.mono {H H' : Hp} {a : Addr} {ws : List Str} {s : Nat} (e : Same H H') (h : WAt K H a ws s) : WAt K H' a ws s := by
  obtain ⟨dx, l, nx, ha, hl⟩ := h
  exact ⟨dx, l, nx, e _ _ ha, e _ _ hl⟩
/-- self.spot = self.spot + 1; return .. -/
theorem s_step {σ : L2.St} {H : Hp} {a : Addr} {ws : List Str} {s : Nat} {u : TS} {D : Ends} (G : Fc K mg) (h0 : σ[0]? = some (some (.ref a))) (h : WAt K H a ws s) (k : ∀ H', KeepX a H H' → WAt K H' a ws (s + 1) → u D σ H') :
    tSeq (sFld K (tVar 0) (tOp (rI0 fun i j => .int (i + j)) (tFld K (tVar 0) "spot") (tC (.int 1))) "spot") u D σ H := by
  obtain ⟨dx, l, nx, ha, hl⟩ := h
  refine s_fld h0 ha G.c_Words G.n_Words_spot (by show 3 < 1000; decide) (ev_op (ev_fld (ev_var h0 ⟨a, dx, rfl, ha⟩) G.c_Words G.n_Words_spot rfl) ev_k rp_I0) fun H2 e2 => ?_
  rw [flds3']
  refine k _ (KeepX.put (Same.keepX e2)) ⟨dx, l, nx, by rw [upd_same]; rfl, ?_⟩
  rw [upd_ne nx]
  exact e2 _ _ hl
theorem rp_isN {x : V} {H : Hp} : RP (fun x y H Q => y = .non ∧ Q (.bl (decide (x = .non))) H) (is x) (is .non) H (is (.bl (decide (x = .non)))) := fun H1 _ a b ha hb Q k => by
  cases ha; cases hb
  exact ⟨rfl, k _ H1 (Same.refl H1) rfl⟩
theorem rp_notN {x : V} {H : Hp} : RP (fun x y H Q => y = .non ∧ Q (.bl (!decide (x = .non))) H) (is x) (is .non) H (is (.bl (!decide (x = .non)))) := fun H1 _ a b ha hb Q k => by
  cases ha; cases hb
  exact ⟨rfl, k _ H1 (Same.refl H1) rfl⟩
theorem rp_inT {neg : Bool} {p : Addr} {xs : List V} {x : V} {H : Hp} (h : H p = some (.tup xs)) (hx : flatV x = true) (ha : xs.all flatV = true) : RP (rIn K neg) (is x) (is (.ref p)) H (is (.bl (if neg then !inV x xs else inV x xs))) := fun H1 e a b h1 h2 Q k => by
  cases h1; cases h2
  exact ⟨p, xs, rfl, .inr (SqT.of (e _ _ h)), hx, ha, k _ H1 (Same.refl H1) rfl⟩
def spTakeWord (K : PySem.W.Frag) : Sp := fun vs H Q _ => ∃ (a c : Addr) (ws cs : List Str) (s : Nat) (z : Str), vs = [.ref a, .ref c] ∧ WAt K H a ws s ∧ H c = some (.tup (cs.map V.str)) ∧ ws[s]? = some z ∧ z ∈ cs ∧ ∀ H', KeepX a H H' → WAt K H' a ws (s + 1) → Q (.str z) H'
theorem inV_str {z : Str} {cs : List Str} (h : z ∈ cs) : inV (.str z) (cs.map V.str) = true := by
  unfold inV
  refine List.any_eq_true.mpr ⟨.str z, List.mem_map_of_mem h, ?_⟩
  simp [eqV]
theorem flat_strs {cs : List Str} : (cs.map V.str).all flatV = true := by
  rw [List.all_map]
  exact List.all_eq_true.mpr fun _ _ => rfl
theorem sc_Words_take_word : FnScope ["self", "choices", "word"] ["self", "choices"] (defScope s_Words_take_word) := ⟨rfl, rfl, rfl, by decide +kernel, rfl, by decide +kernel, by decide +kernel⟩
theorem ok_Words_take_word (G : Fc K mg) : Fn P w K mg base 2 (f_Words_take_word K) (spTakeWord K) := by
  refine fnA G.d_Words_take_word sc_Words_take_word (fun _ _ _ _ _ _ us hl => match us, hl with | [_, _], _ => rfl) (fun vs H Q h => ?_) (fun vs H Q E h => h) (fun cdv A outer s H vs Q hr h => ?_)
  · obtain ⟨a, c, ws, cs, s, z, rfl, _⟩ := h
    rfl
  · obtain ⟨a, c, ws, cs, s, z, rfl, hw, hc, hz, hm, k⟩ := h
    have nd := sc_Words_take_word.nd
    refine ⟨_, pss_cons (ps_set (i := 2) nd rfl (Or.inl rfl) (pe_m0 hr (pv 0)))
      (pss_cons (ps_if (PW.pt (pw_or (pt_cmpR op_isN (pv 2) pe_non (nomark _)) (pw_or1 (pt_cmpR op_notIn_seq (pv 2) (pv 1) (by rfl))))) pss_never pss_nil)
      (pss_cons (ps_fld (pv 0) (pe_op op_add (pe_fld (pv 0) rfl) pe_int) rfl)
      (pss_one (ps_ret (pv 2))))), ?_⟩
    refine s_set (ev_m (ev_v rfl) ea_nil (mp_next G ⟨rfl, rfl, rfl⟩ hw)) fun v H1 e1 hv => ?_
    rw [hz] at hv
    cases hv
    refine s_skip (et_eq (et_or (et_test (ev_op (ev_v rfl) ev_k rp_isN)) fun _ => et_test (ev_op (ev_v rfl) (ev_v rfl) (rp_inT (e1 _ _ hc) rfl flat_strs))) (by rw [inV_str hm]; rfl)) fun H2 e2 => ?_
    refine s_step G rfl (hw.mono (e1.trans e2)) fun H3 e3 hw3 => ?_
    refine s_ret (ev_v rfl) fun v H4 e4 hv => ?_
    cases hv
    exact k H4 (fun b o hb ho => e4 _ _ (e3 b o hb (e2 _ _ (e1 _ _ ho)))) (hw3.mono e4)
def spTakeName (K : PySem.W.Frag) : Sp := fun vs H Q _ => ∃ (a : Addr) (ws : List Str) (s : Nat) (z above : Str), vs = [.ref a, .str above] ∧ WAt K H a ws s ∧ ws[s]? = some z ∧ nameOk z = true ∧ sLt above z = true ∧ ∀ H', KeepX a H H' → WAt K H' a ws (s + 1) → Q (.str z) H'
theorem sp_name {z : Str} {H : Hp} (h : nameOk z = true) : SP spName [is (.str z)] H (is (.bl true)) := fun H1 e vs hv Q k => by
  have ev := all2_is (xs := [.str z]) hv
  subst ev
  exact ⟨z, rfl, h, fun H2 e2 => k _ H2 e2 rfl⟩
theorem sc_Words_take_name : FnScope ["self", "above", "word"] ["self", "above"] (defScope s_Words_take_name) := ⟨rfl, rfl, rfl, by decide +kernel, rfl, by decide +kernel, by decide +kernel⟩
theorem body_take_name (G : Fc K mg) (cdv : Value) (A : Around) (outer : List Env) (s : Shared) (H : Hp) (vs : List V) (Q : VK) (hr : Room 1 (A.deeper (envOfC "Words.take_name" (defScope s_Words_take_name) s.heap.objs.size (f_Words_take_name K) cdv))) (h : spTakeName K vs H Q E0) :
    ∃ t, PSs (cxOf CX0 P w K mg base ["self", "above", "word"] "Words.take_name" (defScope s_Words_take_name) (f_Words_take_name K) cdv A outer s H E0).nox (defBody s_Words_take_name) t ∧ t { nx := fun _ H' => Q .non H', rt := Q } (start ["self", "above", "word"] vs) H := by
  obtain ⟨a, ws, s, z, above, rfl, hw, hz, hn, hl, k⟩ := h
  have nd := sc_Words_take_name.nd
  refine ⟨_, pss_cons (ps_set (i := 2) nd rfl (Or.inl rfl) (pe_m0 hr (pv 0)))
    (pss_cons (ps_if (PW.pt (pw_or (pt_cmpR op_isN (pv 2) pe_non (nomark _)) (pw_or (pt_not (pt_val (pe_f (ok_is_name G) hr G.g_is_name G.d_is_name.choose_spec.kp (pa_cons (pv 2) pa_nil)))) (pw_or1 (pt_cmpR op_le_str (pv 2) (pv 1) (nomark _)))))) pss_never pss_nil)
    (pss_cons (ps_fld (pv 0) (pe_op op_add (pe_fld (pv 0) rfl) pe_int) rfl)
    (pss_one (ps_ret (pv 2))))), ?_⟩
  refine s_set (ev_m (ev_v rfl) ea_nil (mp_next G ⟨rfl, rfl, rfl⟩ hw)) fun v H1 e1 hv => ?_
  rw [hz] at hv
  cases hv
  unfold sLt at hl
  refine s_skip (et_eq (et_or (et_test (ev_op (ev_v rfl) ev_k rp_isN)) fun _ => et_or (et_not (et_B (ev_f (ea_cons (ev_v rfl) ea_nil) (sp_name hn)))) fun _ => et_test (ev_op (ev_v rfl) (ev_v rfl) rp_leS)) (by rw [hl]; rfl)) fun H2 e2 => ?_
  refine s_step G rfl (hw.mono (e1.trans e2)) fun H3 e3 hw3 => ?_
  refine s_ret (ev_v rfl) fun v H4 e4 hv => ?_
  cases hv
  exact k H4 (fun b o hb ho => e4 _ _ (e3 b o hb (e2 _ _ (e1 _ _ ho)))) (hw3.mono e4)
theorem ok_Words_take_name2 (G : Fc K mg) : Fn P w K mg base 2 (f_Words_take_name K) (spTakeName K) := by
  refine FnR.imp (fnB (sp := spTakeName K) 2 1 G.d_Words_take_name sc_Words_take_name (by simp) rfl (fun T kV doc pm an cdv ct us its hu hi => ?_) (fun vs H Q E h => h) (fun cdv A outer s H vs Q hr h => body_take_name G cdv A outer s H vs Q hr h)) fun vs H Q E h => ?_
  · match us, its, hu, hi with
    | [a, b], [c], _, _ => exact ⟨_, rfl, rfl⟩
  · obtain ⟨a, ws, s, z, above, rfl, h⟩ := h
    exact ⟨rfl, a, ws, s, z, above, rfl, h⟩
theorem ok_Words_take_name1 (G : Fc K mg) : Fn P w K mg base 2 (f_Words_take_name K) (fun vs H Q E => vs.length = 1 ∧ spTakeName K (vs ++ [.str ""]) H Q E) := by
  refine fnB (sp := spTakeName K) 1 0 G.d_Words_take_name sc_Words_take_name (by simp) rfl (fun T kV doc pm an cdv ct us its hu hi => ?_) (fun vs H Q E h => h) (fun cdv A outer s H vs Q hr h => body_take_name G cdv A outer s H vs Q hr h)
  match us, its, hu, hi with
  | [a], [c], _, _ => exact ⟨_, rfl, rfl⟩
def spTakeNumber (K : PySem.W.Frag) : Sp := fun vs H Q _ => ∃ (a : Addr) (ws : List Str) (s : Nat) (i lo hi : Int), vs = [.ref a, .int lo, .int hi] ∧ WAt K H a ws s ∧ ws[s]? = some (numS i) ∧ 0 ≤ i ∧ i ≤ 1000000000000 ∧ lo ≤ i ∧ i ≤ hi ∧ ∀ H', KeepX a H H' → WAt K H' a ws (s + 1) → Q (.int i) H'
theorem sp_numIn {i lo hi : Int} {H : Hp} (h0 : 0 ≤ i) (h1 : i ≤ 1000000000000) (h2 : lo ≤ i) (h3 : i ≤ hi) : SP spNumIn [is (.str (numS i)), is (.int lo), is (.int hi)] H (is (.int i)) := fun H1 e vs hv Q k => by
  have ev := all2_is (xs := [.str (numS i), .int lo, .int hi]) hv
  subst ev
  exact ⟨i, lo, hi, rfl, h0, h1, h2, h3, fun H2 e2 => k _ H2 e2 rfl⟩
theorem sc_Words_take_number : FnScope ["self", "least", "most", "word", "found"] ["self", "least", "most"] (defScope s_Words_take_number) := ⟨rfl, rfl, rfl, by decide +kernel, rfl, by decide +kernel, by decide +kernel⟩
theorem ok_Words_take_number (G : Fc K mg) : Fn P w K mg base 2 (f_Words_take_number K) (spTakeNumber K) := by
  refine fnA G.d_Words_take_number sc_Words_take_number (fun _ _ _ _ _ _ us hl => match us, hl with | [_, _, _], _ => rfl) (fun vs H Q h => ?_) (fun vs H Q E h => h) (fun cdv A outer s H vs Q hr h => ?_)
  · obtain ⟨a, ws, s, i, lo, hi, rfl, _⟩ := h
    rfl
  · obtain ⟨a, ws, s, i, lo, hi, rfl, hw, hz, h0, h1, h2, h3, k⟩ := h
    have nd := sc_Words_take_number.nd
    refine ⟨_, pss_cons (ps_set (i := 3) nd rfl (Or.inl rfl) (pe_m0 hr (pv 0)))
      (pss_cons (ps_set (i := 4) nd rfl (Or.inl rfl) (pe_ifExp (pt_cmpR op_isN (pv 3) pe_non (nomark _)) pe_non (pe_f (ok_number_in G) hr G.g_number_in G.d_number_in.choose_spec.kp (pa_cons (pv 3) (pa_cons (pv 1) (pa_cons (pv 2) pa_nil))))))
      (pss_cons (ps_if (pt_cmpR op_isN (pv 4) pe_non (nomark _)) pss_never pss_nil)
      (pss_cons (ps_fld (pv 0) (pe_op op_add (pe_fld (pv 0) rfl) pe_int) rfl)
      (pss_one (ps_ret (pv 4)))))), ?_⟩
    refine s_set (ev_m (ev_v rfl) ea_nil (mp_next G ⟨rfl, rfl, rfl⟩ hw)) fun v H1 e1 hv => ?_
    rw [hz] at hv
    cases hv
    refine s_set (ev_if (Φ := is (.int i)) (et_test (ev_op (ev_v rfl) ev_k rp_isN)) (fun z => by simp at z) fun _ => ev_f (ea_cons (ev_v rfl) (ea_cons (ev_v rfl) (ea_cons (ev_v rfl) ea_nil))) (sp_numIn h0 h1 h2 h3)) fun v H2 e2 hv => ?_
    cases hv
    refine s_skip (et_test (ev_op (ev_v rfl) ev_k rp_isN)) fun H3 e3 => ?_
    refine s_step G rfl (hw.mono ((e1.trans e2).trans e3)) fun H4 e4 hw4 => ?_
    refine s_ret (ev_v rfl) fun v H5 e5 hv => ?_
    cases hv
    exact k H5 (fun b o hb ho => e5 _ _ (e4 b o hb (e3 _ _ (e2 _ _ (e1 _ _ ho))))) (hw4.mono e5)
def spTakeEnd (K : PySem.W.Frag) : Sp := fun vs H Q _ => ∃ (a : Addr) (ws : List Str), vs = [.ref a] ∧ WAt K H a ws ws.length ∧ ∀ H', Same H H' → Q .non H'
theorem sc_Words_take_end : FnScope ["self"] ["self"] (defScope s_Words_take_end) := ⟨rfl, rfl, rfl, by decide +kernel, rfl, by decide +kernel, by decide +kernel⟩
theorem ok_Words_take_end (G : Fc K mg) : Fn P w K mg base 1 (f_Words_take_end K) (spTakeEnd K) := by
  refine fnA G.d_Words_take_end sc_Words_take_end (fun _ _ _ _ _ _ us hl => match us, hl with | [_], _ => rfl) (fun vs H Q h => ?_) (fun vs H Q E h => h) (fun cdv A outer s H vs Q hr h => ?_)
  · obtain ⟨a, ws, rfl, _⟩ := h
    rfl
  · obtain ⟨a, ws, rfl, ⟨dx, l, nx, ha, hl⟩, k⟩ := h
    refine ⟨_, pss_one (ps_if (pt_cmpR op_lt (pe_fld (pv 0) rfl) (pe_callB call_len_seq (by rfl) G.b_len PySem.boot_len (pa_cons (pe_fld (pv 0) rfl) pa_nil)) (nomark _)) pss_never pss_nil), ?_⟩
    have h0 : EvP (tVar 0) (start ["self"] [.ref a]) H (insQ (cWords K) [("line", .int 0), ("words", .ref l), ("spot", .int ws.length)]) := ev_var rfl ⟨a, dx, rfl, ha⟩
    have e0 : decide (((ws.length : Nat) : Int) < (((ws.map V.str).length : Nat) : Int)) = false := by rw [List.length_map]; exact decide_eq_false (by omega)
    have ht := ev_op (ev_fld h0 G.c_Words G.n_Words_spot rfl) (ev_cb (ea_cons (ev_fld h0 G.c_Words G.n_Words_words rfl) ea_nil) (cp_len (K := K) hl)) (rp_I0 (g := fun i j => .bl (decide (i < j))))
    rw [e0] at ht
    exact s_skip1 (et_test ht) fun H2 e2 => k H2 e2
end
end K22

set_option Elab.async false
set_option linter.all false
set_option maxRecDepth 100000
set_option maxHeartbeats 4000000
/-! C6: a trip read from its text. -/
namespace K22
open PySem PySem.Spec PyProof.Rows L2
theorem KeepX.trans {x : Addr} {H H1 H2 : Hp} (e : KeepX x H H1) (e2 : KeepX x H1 H2) : KeepX x H H2 := fun b o hb h => e2 b o hb (e b o hb h)
theorem lt_empty {z : Str} (h : nameOk z = true) : sLt "" z = true := by
  have h1 := (name_len h).1
  have h2 : (z.cps.toList).length = z.length := by simp [Str.length]
  unfold sLt
  refine decide_eq_true ?_
  have e0 : ("" : Str).cps.toList = [] := by decide +kernel
  rw [e0]
  cases hz : z.cps.toList with
  | nil => rw [hz] at h2; simp at h2; omega
  | cons c r => exact List.Lex.nil
section
variable {w : World} {K : PySem.W.Frag} {mg : Str → Option Value} {base : Heap}
variable {X : Cx} {n i : Nat} {σ : L2.St} {H : Hp} {a : Addr} {ws : List Str} {s : Nat} {u : TS} {D : Ends}
theorem r_mcall {m : Str} {to : TE} {t : TA} {Q : VK} {C dx f : Addr} {fs : List (Str × V)} {k : Nat} {sp : Sp} {As : List VQ} (h0 : EvP to σ H (is (.ref a))) (ha : H a = some (.ins C dx fs)) (cl : Cls X.K C) (M : Meth X.K C m f) (nl : fs.lookup m = none) (F : FnX X k f sp) (hk : k ≤ n)
    (hargs : EaP t σ H As) (hs : ∀ H1, Same H H1 → ∀ vs, All2 As vs H1 → sp (.ref a :: vs) H1 Q E0) : tM X n m to t σ H Q :=
  h0.run fun x H1 e1 hx => ⟨a, C, dx, fs, f, k, sp, hx, e1 _ _ ha, cl, M, nl, F, hk, hargs H1 e1 _ fun vs H2 e2 hv => hs H2 (e1.trans e2) vs hv⟩
theorem r_name0 {Q : VK} (G : Fc X.K X.mg) (h0 : σ[0]? = some (some (.ref a))) (h : WAt X.K H a ws s) {z : Str} (hz : ws[s]? = some z) (hn : nameOk z = true) (k : ∀ H', KeepX a H H' → WAt X.K H' a ws (s + 1) → Q (.str z) H') (hk : 2 ≤ n := by decide) : tM X n "take_name" (tVar 0) tNil σ H Q := by
  obtain ⟨dx, l, nx, ha, hl⟩ := id h
  refine r_mcall (ev_v h0) ha G.c_Words G.h_Words_take_name (by rfl) (ok_Words_take_name1 G) hk ea_nil fun H1 e1 vs hv => ?_
  cases hv
  exact ⟨rfl, a, ws, s, z, "", rfl, h.mono e1, hz, hn, lt_empty hn, fun H' e' hw => k H' (KeepX.trans (Same.keepX e1) e') hw⟩
theorem r_name1 {Q : VK} {te : TE} {b z : Str} (G : Fc X.K X.mg) (h0 : σ[0]? = some (some (.ref a))) (h : WAt X.K H a ws s) (hz : ws[s]? = some z) (hn : nameOk z = true) (ht : EvP te σ H (is (.str b))) (hb : sLt b z = true) (k : ∀ H', KeepX a H H' → WAt X.K H' a ws (s + 1) → Q (.str z) H') (hk : 2 ≤ n := by decide) : tM X n "take_name" (tVar 0) (tCons te tNil) σ H Q := by
  obtain ⟨dx, l, nx, ha, hl⟩ := id h
  refine r_mcall (ev_v h0) ha G.c_Words G.h_Words_take_name (by rfl) (ok_Words_take_name2 G) hk (ea_cons ht ea_nil) fun H1 e1 vs hv => ?_
  have ev := all2_is (xs := [.str b]) hv
  subst ev
  exact ⟨a, ws, s, z, b, rfl, h.mono e1, hz, hn, hb, fun H' e' hw => k H' (KeepX.trans (Same.keepX e1) e') hw⟩
theorem r_num {Q : VK} {t1 t2 : TE} {j lo hi : Int} (G : Fc X.K X.mg) (h0 : σ[0]? = some (some (.ref a))) (h : WAt X.K H a ws s) (hz : ws[s]? = some (numS j)) (h1 : EvP t1 σ H (is (.int lo))) (h2 : EvP t2 σ H (is (.int hi))) (b0 : 0 ≤ j) (b1 : j ≤ 1000000000000) (b2 : lo ≤ j) (b3 : j ≤ hi)
    (k : ∀ H', KeepX a H H' → WAt X.K H' a ws (s + 1) → Q (.int j) H') (hk : 2 ≤ n := by decide) : tM X n "take_number" (tVar 0) (tCons t1 (tCons t2 tNil)) σ H Q := by
  obtain ⟨dx, l, nx, ha, hl⟩ := id h
  refine r_mcall (ev_v h0) ha G.c_Words G.h_Words_take_number (by rfl) (ok_Words_take_number G) hk (ea_cons h1 (ea_cons h2 ea_nil)) fun H1 e1 vs hv => ?_
  have ev := all2_is (xs := [.int lo, .int hi]) hv
  subst ev
  exact ⟨a, ws, s, j, lo, hi, rfl, h.mono e1, hz, b0, b1, b2, b3, fun H' e' hw => k H' (KeepX.trans (Same.keepX e1) e') hw⟩
theorem r_word {Q : VK} {t1 : TE} {cs : List Str} {z : Str} (G : Fc X.K X.mg) (h0 : σ[0]? = some (some (.ref a))) (h : WAt X.K H a ws s) (hz : ws[s]? = some z) (h1 : EvP t1 σ H (tupQ (cs.map fun c => is (.str c)))) (hm : z ∈ cs) (k : ∀ H', KeepX a H H' → WAt X.K H' a ws (s + 1) → Q (.str z) H') (hk : 2 ≤ n := by decide) :
    tM X n "take_word" (tVar 0) (tCons t1 tNil) σ H Q := by
  obtain ⟨dx, l, nx, ha, hl⟩ := id h
  refine r_mcall (ev_v h0) ha G.c_Words G.h_Words_take_word (by rfl) (ok_Words_take_word G) hk (ea_cons h1 ea_nil) fun H1 e1 vs hv => ?_
  cases hv with
  | cons hc hv =>
  cases hv
  obtain ⟨c, vs, rfl, hc, ha⟩ := hc
  have ev := all2_is (xs := cs.map V.str) (by rw [List.map_map]; exact ha)
  subst ev
  exact ⟨a, c, ws, cs, s, z, rfl, h.mono e1, hc, hz, hm, fun H' e' hw => k H' (KeepX.trans (Same.keepX e1) e') hw⟩
/-! ### trip_in -/
def Tr.words (t : Tr) : List Str := if t.stay = true then [t.word, t.name, t.start, numS t.leaves, numS t.takes] else [t.word, t.name, t.start, numS t.leaves, numS t.takes, t.goal]
def spTripIn (K : PySem.W.Frag) : Sp := fun vs H Q _ => ∃ (a : Addr) (t : Tr), vs = [.ref a, .str "", .int 1000000000000] ∧ t.Ok ∧ WAt K H a t.words 0 ∧ ∀ v H', KeepX a H H' → WAt K H' a t.words t.words.length → tripQ K t v H' → Q v H'
theorem sc_trip_in : FnScope ["words", "above", "last", "word", "name", "start", "leaves", "takes"] ["words", "above", "last"] (defScope s_trip_in) := ⟨rfl, rfl, rfl, by decide +kernel, rfl, by decide +kernel, by decide +kernel⟩
theorem ok_trip_in (G : Fc K mg) : Fn R.prog w K mg base 8 (f_trip_in K) (fun vs H Q E => vs.length = 1 ∧ spTripIn K (vs ++ [.str "", .int 1000000000000]) H Q E) := by
  refine fnB (sp := spTripIn K) 1 0 G.d_trip_in sc_trip_in (by simp) rfl (fun T kV doc pm an cdv ct us its hu hi => ?_) (fun vs H Q E h => h) (fun cdv A outer s H vs Q hr h => ?_)
  · match us, its, hu, hi with
    | [a], [c, d], _, _ => exact ⟨_, rfl, rfl⟩
  · obtain ⟨a, t, rfl, ok, hw, k⟩ := h
    have nd := sc_trip_in.nd
    obtain ⟨tk, hmost⟩ := G.i_MOST_NUMBER
    refine ⟨_, pss_cons (ps_set (i := 3) nd rfl (Or.inl rfl) (pe_m hr (pv 0) (pa_cons (pe_tup (pa_cons pe_str (pa_cons pe_str pa_nil))) pa_nil))) <|
      pss_cons (ps_set (i := 4) nd rfl (Or.inl rfl) (pe_m hr (pv 0) (pa_cons (pv 1) pa_nil))) <|
      pss_cons (ps_set (i := 5) nd rfl (Or.inl rfl) (pe_m0 hr (pv 0))) <|
      pss_cons (ps_set (i := 6) nd rfl (Or.inl rfl) (pe_m hr (pv 0) (pa_cons pe_int (pa_cons (pv 2) pa_nil)))) <|
      pss_cons (ps_set (i := 7) nd rfl (Or.inl rfl) (pe_m hr (pv 0) (pa_cons pe_int (pa_cons (pe_glob (v := .int 1000000000000) (by rfl) hmost ⟨_, rfl⟩) pa_nil)))) <|
      pss_cons (ps_if (pt_cmpR op_eq (pv 3) pe_str (nomark _)) (pss_one (ps_ret (pe_mk (C := cT K true) G.m_Stay (ok_mkinit G true) hr G.g_Stay (pa_cons (pv 4) (pa_cons (pv 5) (pa_cons (pv 6) (pa_cons (pv 7) pa_nil))))))) pss_nil) <|
      pss_one (ps_ret (pe_mk (C := cT K false) G.m_Run (ok_mkinit G false) hr G.g_Run (pa_cons (pv 4) (pa_cons (pv 5) (pa_cons (pv 6) (pa_cons (pv 7) (pa_cons (pe_m0 hr (pv 0)) pa_nil))))))), ?_⟩
    have w0 : t.words[0]? = some t.word := by unfold Tr.words; split <;> rfl
    have w1 : t.words[1]? = some t.name := by unfold Tr.words; split <;> rfl
    have w2 : t.words[2]? = some t.start := by unfold Tr.words; split <;> rfl
    have w3 : t.words[3]? = some (numS t.leaves) := by unfold Tr.words; split <;> rfl
    have w4 : t.words[4]? = some (numS t.takes) := by unfold Tr.words; split <;> rfl
    refine r_word (cs := ["run", "stay"]) G rfl hw w0 (ev_tup (ea_cons ev_k (ea_cons ev_k ea_nil))) (by unfold Tr.word; split <;> simp) fun H1 e1 hw1 => ?_
    refine r_name1 G rfl hw1 w1 ok.name (ev_v rfl) (lt_empty ok.name) fun H2 e2 hw2 => ?_
    refine r_name0 G rfl hw2 w2 ok.start fun H3 e3 hw3 => ?_
    refine r_num G rfl hw3 w3 ev_k (ev_v rfl) ok.l0 ok.l1 ok.l0 ok.l1 fun H4 e4 hw4 => ?_
    refine r_num G rfl hw4 w4 ev_k ev_k (Int.le_trans (by decide) ok.t0) ok.t1 ok.t0 ok.t1 fun H5 e5 hw5 => ?_
    have kp : KeepX a H H5 := (((e1.trans e2).trans e3).trans e4).trans e5
    have hm := mk_trip (K := K) (H := H5) ok
    cases hb : t.stay with
    | true =>
      have hwd : t.word = "stay" := by unfold Tr.word; rw [if_pos hb]
      have ea : t.args = [.str t.name, .str t.start, .int t.leaves, .int t.takes] := by unfold Tr.args; rw [if_pos hb]
      have hlen : t.words.length = 5 := by unfold Tr.words; rw [if_pos hb]; rfl
      refine s_if (c := true) (et_eq (et_test (ev_op (ev_v rfl) ev_k (rp_eq rfl))) (by rw [hwd]; rfl)) (fun _ H6 e6 => ?_) fun z => by cases z
      rw [hb, ea] at hm
      refine s_ret (EvP.mono e6 (ev_mk (ea_cons (ev_v rfl) (ea_cons (ev_v rfl) (ea_cons (ev_v rfl) (ea_cons (ev_v rfl) ea_nil)))) hm)) fun v H7 e7 hv => ?_
      exact k v H7 (kp.same (e6.trans e7)) (by rw [hlen]; exact hw5.mono (e6.trans e7)) hv
    | false =>
      have hwd : t.word = "run" := by unfold Tr.word; rw [if_neg (by rw [hb]; decide)]
      have ea : t.args = [.str t.name, .str t.start, .int t.leaves, .int t.takes, .str t.goal] := by unfold Tr.args; rw [if_neg (by rw [hb]; decide)]
      have hlen : t.words.length = 6 := by unfold Tr.words; rw [if_neg (by rw [hb]; decide)]; rfl
      have w5 : t.words[5]? = some t.goal := by unfold Tr.words; rw [if_neg (by rw [hb]; decide)]; rfl
      refine s_skip (et_eq (et_test (ev_op (ev_v rfl) ev_k (rp_eq rfl))) (by rw [hwd]; decide +kernel)) fun H6 e6 => ?_
      refine ⟨_, rfl, _, rfl, _, rfl, _, rfl, ?_⟩
      refine r_name0 G rfl (hw5.mono e6) w5 ok.goal fun H7 e7 hw7 => ?_
      intro x dx hx hdx hne
      refine ⟨x, dx, t, hb, by rw [ea], upd_same, ok, fun H' kp' hx' => ⟨rfl, ?_⟩⟩
      have sm : Same H7 H' := kp'.new hx hdx
      exact k _ H' ((kp.same e6).trans (e7.same sm)) (by rw [hlen]; exact hw7.mono sm) ⟨x, dx, rfl, by rw [hb]; exact hx'⟩
/-! ### Trip.read -/
theorem text_words (t : Tr) : t.text = Str.join " " t.words := by
  refine TL.ext_tl ?_
  rw [TL.tl_join]
  have e0 : TL.tl Str.empty = [] := by decide +kernel
  have e1 : ∀ a b : Str, TL.tl (a ++ b) = TL.tl a ++ TL.tl b := TL.tl_append
  unfold Tr.text Tr.parts Tr.words catS numS
  cases t.stay with
  | true =>
    simp only [if_true, List.foldl_cons, List.foldl_nil, e1, e0, List.map_cons, List.map_nil, TL.joinL, List.nil_append, List.append_assoc]
  | false =>
    simp only [Bool.false_eq_true, if_false, List.foldl_cons, List.foldl_nil, e1, e0, List.map_cons, List.map_nil, TL.joinL, List.nil_append, List.append_assoc]
theorem blank_name {z : Str} (h : nameOk z = true) : blankFree z = true := by
  unfold nameOk at h
  rw [Bool.and_eq_true, Bool.and_eq_true] at h
  refine List.all_eq_true.mpr fun c hc => decide_eq_true ?_
  have := List.all_eq_true.mp h.2.2 c hc
  rw [Bool.and_eq_true, decide_eq_true_iff, decide_eq_true_iff] at this
  omega
theorem blank_num {i : Int} (h : 0 ≤ i) : blankFree (numS i) = true := by
  obtain ⟨n, rfl⟩ := Int.eq_ofNat_of_zero_le h
  refine List.all_eq_true.mpr fun c hc => decide_eq_true ?_
  rw [numS_tl] at hc
  have := TL.numL_digits n c hc
  omega
theorem words_free {t : Tr} (ok : t.Ok) : ∀ z ∈ t.words, blankFree z = true := by
  have hw : blankFree t.word = true := by unfold Tr.word; split <;> decide +kernel
  have t0 : 0 ≤ t.takes := Int.le_trans (by decide) ok.t0
  unfold Tr.words
  split <;> intro z hz <;> simp only [List.mem_cons, List.not_mem_nil, or_false] at hz
  · rcases hz with rfl | rfl | rfl | rfl | rfl
    · exact hw
    · exact blank_name ok.name
    · exact blank_name ok.start
    · exact blank_num ok.l0
    · exact blank_num t0
  · rcases hz with rfl | rfl | rfl | rfl | rfl | rfl
    · exact hw
    · exact blank_name ok.name
    · exact blank_name ok.start
    · exact blank_num ok.l0
    · exact blank_num t0
    · exact blank_name ok.goal
theorem catS_len (ys : List Str) : ∀ acc : Str, (catS acc ys).length = acc.length + (ys.map (·.length)).sum := by
  induction ys with
  | nil => intro acc; simp [catS]
  | cons y ys ih =>
    intro acc
    show (catS (acc ++ y) ys).length = _
    rw [ih, str_app_len, List.map_cons, List.sum_cons]
    omega
theorem text_len {t : Tr} (ok : t.Ok) : t.text.length ≤ 1000 := by
  have wl : t.word.length ≤ 10 := by unfold Tr.word; split <;> decide
  have n1 := name_len ok.name
  have n2 := name_len ok.start
  have n5 := name_len ok.goal
  have n3 := toStr_len ok.l0 ok.l1
  have n4 := toStr_len (Int.le_trans (by decide) ok.t0) ok.t1
  have s1 : ((" " : Str)).length = 1 := rfl
  have s0 : Str.empty.length = 0 := rfl
  unfold Tr.text
  rw [catS_len]
  unfold Tr.parts
  split
  · simp only [List.map_cons, List.map_nil, List.sum_cons, List.sum_nil, s1, s0]
    omega
  · simp only [List.map_cons, List.map_nil, List.sum_cons, List.sum_nil, s1, s0]
    omega
def spRead (K : PySem.W.Frag) : Sp := fun vs H Q _ => ∃ t : Tr, vs = [.str t.text] ∧ t.Ok ∧ ∀ v H', Same H H' → tripQ K t v H' → Q v H'
theorem cp_isiStr {z : Str} {H : Hp} : CP (rIsi K) [is (.str z), is (.ty "str")] H (is (.bl true)) := fun H1 _ vs hv Q k => by
  have ev := all2_is (xs := [.str z, .ty "str"]) hv
  subst ev
  exact ⟨_, _, _, _, true, rfl, .ty "str", .base (.str z), kit_ty (r := true) (by decide +kernel), k _ H1 (Same.refl H1) rfl⟩
theorem KeepX.same_of {x : Addr} {H H1 H2 : Hp} (s : Same H H1) (hx : H x = none) (e : KeepX x H1 H2) : Same H H2 := fun b o h => e b o (ne_of_none h hx) (s b o h)
theorem sc_Trip_read : FnScope ["text", "words", "found"] ["text"] (defScope s_Trip_read) := ⟨rfl, rfl, rfl, by decide +kernel, rfl, by decide +kernel, by decide +kernel⟩
theorem ok_Trip_read (G : Fc K mg) : Fn R.prog w K mg base 9 (f_Trip_read K) (spRead K) := by
  refine fnA G.d_Trip_read sc_Trip_read (fun _ _ _ _ _ _ us hl => match us, hl with | [_], _ => rfl) (fun vs H Q h => ?_) (fun vs H Q E h => h) (fun cdv A outer s H vs Q hr h => ?_)
  · obtain ⟨t, rfl, _⟩ := h
    rfl
  · obtain ⟨t, rfl, ok, k⟩ := h
    have nd := sc_Trip_read.nd
    refine ⟨_, pss_cons (ps_if (pt_not (pt_val (pe_callB call_isi (by rfl) G.b_isinstance (by decide +kernel) (pa_cons (pv 0) (pa_cons (pe_bltn (v := .ty "str") (by rfl) G.b_str (by decide +kernel) rfl) pa_nil))))) pss_never pss_nil) <|
      pss_cons (ps_set (i := 1) nd rfl (Or.inl rfl) (pe_mk G.m_Words (ok_Words_init G) hr G.g_Words (pa_cons pe_int (pa_cons (pv 0) pa_nil)))) <|
      pss_cons (ps_set (i := 2) nd rfl (Or.inl rfl) (pe_f (ok_trip_in G) hr G.g_trip_in G.d_trip_in.choose_spec.kp (pa_cons (pv 1) pa_nil))) <|
      pss_cons (ps_expr (pe_m0 hr (pv 1))) <| pss_one (ps_ret (pv 2)), ?_⟩
    refine s_skip (et_not (b := true) (et_B (ev_cb (ea_cons (ev_v rfl) (ea_cons ev_k ea_nil)) cp_isiStr))) fun H1 e1 => ?_
    refine ⟨_, rfl, fun x dx hx hdx hne => ?_⟩
    have hx0 : H x = none := by
      cases q : H x with
      | none => rfl
      | some o => rw [e1 _ _ q] at hx; cases hx
    refine ⟨x, dx, t.words, by rw [text_words], upd_same, by unfold Tr.words; split <;> simp, words_free ok, by rw [← text_words]; exact Nat.le_trans (text_len ok) (by decide), fun H2 e2 hw => ⟨rfl, ?_⟩⟩
    have s2 : Same H H2 := e1.trans (e2.new hx hdx)
    refine ⟨_, rfl, rfl, x, t, rfl, ok, hw, fun v H3 e3 hw3 hv => ?_⟩
    obtain ⟨dx3, l, nx, ha, hl⟩ := id hw3
    have s3 : Same H H3 := e3.same_of s2 hx0
    refine r_mcall (X := cxOf CX0 R.prog w K mg base ["text", "words", "found"] "Trip.read" (defScope s_Trip_read) (f_Trip_read K) cdv A outer s H E0) (As := []) (n := 8) (ev_v rfl) ha G.c_Words G.h_Words_take_end (by rfl) (ok_Words_take_end G) (by decide) ea_nil fun H4 e4 vs hvs => ?_
    cases hvs
    refine ⟨x, t.words, rfl, hw3.mono e4, fun H5 e5 => ?_⟩
    exact ⟨v, rfl, k v H5 ((s3.trans e4).trans e5) (Mono.mono (e4.trans e5) hv)⟩
end
end K22

set_option Elab.async false
set_option linter.all false
set_option maxRecDepth 100000
set_option maxHeartbeats 4000000
/-! S1: set(list of texts), sorted of it. -/
namespace K22
open PySem PySem.Spec PyProof.Rows L2 PySem.Froz
section
variable {P : Program} {w : World} {A : Around} {E : Value → Shared → Prop} {s : Shared}
/-- at a a set of the texts l, as iter and sorted want it -/
structure TxSet (P : Program) (w : World) (h : Heap) (a : Addr) (l : List Str) : Prop where
  ex : ∃ D : SD, h.get? a = some (sObj "set" D) ∧ TxOk P w D l ∧ l.Nodup ∧ Ris D.2.2.place.toList ∧ (w.params.followText "set-order" = true ∨ D.2.2.led = true)
theorem TxSet.keep {h h' : Heap} {a : Addr} {l : List Str} (T : TxSet P w h a l) (k : ∀ o, h.get? a = some o → h'.get? a = some o) : TxSet P w h' a l :=
  let ⟨D, h1, r⟩ := T.ex
  ⟨D, k _ h1, r⟩
theorem tail_ris (ep : Nat) (es : Array (Int × Value)) (t : SetTable) (b : Bool) (r : Ris t.place.toList) : Ris (tailTx ep es t b).2.2.place.toList ∧ (tailTx ep es t b).2.2.led = t.led := by
  unfold tailTx
  split
  · exact ⟨relayAll_ris t es _, relayAll_led t es _⟩
  · exact ⟨r, rfl⟩
theorem addTx_ris (hsh : Int) (v : Value) (D : SD) (r : Ris D.2.2.place.toList) : Ris (addTx hsh v D).2.2.place.toList ∧ (addTx hsh v D).2.2.led = D.2.2.led := by
  have h1 := layNew_ris D.2.2 D.1 hsh v r
  have h2 := layNew_led D.2.2 D.1 hsh v
  unfold addTx
  split
  · obtain ⟨a, b⟩ := tail_ris D.2.1 (layNew D.2.2 D.1 hsh v).1 { (layNew D.2.2 D.1 hsh v).2.1 with plain := false } (layNew D.2.2 D.1 hsh v).2.2.1 h1
    exact ⟨a, b.trans h2⟩
  · obtain ⟨a, b⟩ := tail_ris D.2.1 (layNew D.2.2 D.1 hsh v).1 (layNew D.2.2 D.1 hsh v).2.1 (layNew D.2.2 D.1 hsh v).2.2.1 h1
    exact ⟨a, b.trans h2⟩
/-- the texts met so far -/
def met (l : List Str) (k : Str) : List Str := if k ∈ l then l else k :: l
theorem had_x {a : Addr} {D : SD} {l : List Str} {k : Str} {u : Tok} {Q : Bool → Shared → Prop} (ho : s.heap.get? a = some (sObj "set" D)) (F : TxOk P w D l) (hk : k ∈ l) (hb : l.length + 1 < scanBound) (h : Q false s) :
    wpAny (model P w) A (setAddHashed a (.str k u) (hashStr w k)) Q E s := by
  obtain ⟨es, ep, t⟩ := D
  have hd : (sObj "set" (es, ep, t)).data = .set es ep t := rfl
  have hsz : es.size = l.length := F.sz
  have hb0 : es.size < scanBound := by omega
  have hel : ElemsOf (strKind P w) es.toList := F.el
  obtain ⟨e, he, ke⟩ := (F.mem k).mp hk
  cases hr : List.findIdx? (fun e => (strKind P w).is k e.2) es.toList with
  | none =>
    have := List.findIdx?_eq_none_iff.mp hr e he
    rw [ke] at this
    cases this
  | some j =>
    unfold setAddHashed setAddHashedIn
    refine wpAny_holding (wpAny_bind (wpAny_setState_of ho hd F.fit ?_))
    dsimp only
    rw [byScan_of rfl hb0 hel]
    simp only [↓reduceIte]
    unfold setAddByScan
    refine wpAny_bind (wpAny_bind (wpAny_rule (wpAny_bind (wpAny_setScan_of (knd := strKind P w) (k := k) (is_str k u) ho hd F.fit hel ?_))))
    rw [hr]
    exact wpAny_pure (wpAny_pure h)
theorem put_x {a : Addr} {l : List Str} {k : Str} {u : Tok} {Q : Bool → Shared → Prop} (T : TxSet P w s.heap a l) (hb : l.length + 1 < scanBound)
    (h : ∀ b h', Heap.SameBut a s.heap h' → TxSet P w h' a (met l k) → Q b { s with heap := h' }) : wpAny (model P w) A (setAddHashed a (.str k u) (hashStr w k)) Q E s := by
  obtain ⟨D, ho, F, nd, r, ld⟩ := T.ex
  by_cases hk : k ∈ l
  · refine had_x ho F hk hb ?_
    have := h false s.heap (Heap.SameBut.refl a s.heap) (by unfold met; rw [if_pos hk]; exact ⟨D, ho, F, nd, r, ld⟩)
    exact this
  · refine add_x ho F hk hb (h true _ (Heap.SameBut.update s.heap a _) ?_)
    obtain ⟨r2, l2⟩ := addTx_ris (hashStr w k) (.str k u) D r
    unfold met
    rw [if_neg hk]
    exact ⟨_, get_upd _ ho rfl, add_ok u F, List.nodup_cons.mpr ⟨hk, nd⟩, r2, ld.imp id fun z => l2.trans z⟩
def mets (xs : List Str) : List Str := xs.foldl met []
theorem mets_app (xs : List Str) (k : Str) : mets (xs ++ [k]) = met (mets xs) k := by
  unfold mets
  rw [List.foldl_append]
  rfl
theorem mem_met {l : List Str} {k z : Str} : z ∈ met l k ↔ z ∈ l ∨ z = k := by
  unfold met
  split
  · rename_i h
    exact ⟨.inl, fun q => q.elim id fun e => e ▸ h⟩
  · rw [List.mem_cons]
    exact or_comm
theorem mem_mets (xs : List Str) (z : Str) : z ∈ mets xs ↔ z ∈ xs := by
  have key : ∀ (xs l : List Str), z ∈ xs.foldl met l ↔ z ∈ l ∨ z ∈ xs := by
    intro xs
    induction xs with
    | nil => intro l; simp
    | cons x xs ih =>
      intro l
      rw [List.foldl_cons, ih, mem_met, List.mem_cons]
      exact or_assoc
  unfold mets
  rw [key]
  simp
theorem met_len (l : List Str) (k : Str) : (met l k).length ≤ l.length + 1 := by
  unfold met
  split
  · exact Nat.le_succ _
  · exact Nat.le_refl _
theorem mets_len (xs : List Str) : (mets xs).length ≤ xs.length := by
  have key : ∀ (xs l : List Str), (xs.foldl met l).length ≤ l.length + xs.length := by
    intro xs
    induction xs with
    | nil => intro l; exact Nat.le_refl _
    | cons x xs ih =>
      intro l
      rw [List.foldl_cons, List.length_cons]
      have := ih (met l x)
      have := met_len l x
      omega
  have := key xs []
  simpa [mets] using this
theorem txt_at : ∀ {vs : List Value} {xs : List Str}, PyProof.Rows.StrsAre vs xs → ∀ (i : Nat) (v : Value), vs[i]? = some v → ∃ t, v = .str (xs.getD i Str.empty) t
  | _, _, .nil, _, _, h => by simp at h
  | _, _, .cons x t _, 0, v, h => by
    simp only [List.getElem?_cons_zero, Option.some.injEq] at h
    exact ⟨t, by rw [← h]; simp⟩
  | _, _, .cons x t r, i + 1, v, h => by
    rw [List.getElem?_cons_succ] at h
    obtain ⟨u, e⟩ := txt_at r i v h
    exact ⟨u, by rw [e]; simp⟩
/-- set.update's turns -/
theorem turnsT {I : Addr} {fp wr : List Addr} {Gn : Array GenState → Array GenState → Prop} {n : Nat} {Pv : Nat → Value → Prop} {St : Nat → Shared → Prop} {R : Result → Shared → Prop} (W : WalksS P w A.in1 I fp wr Gn n Pv St) (S : Addr) (hSf : S ∉ fp) (xs : List Str)
    (hn : n = xs.length) (hfew : xs.length ≤ 1000) (hval : ∀ i v, Pv i v → ∃ t, v = .str (xs.getD i Str.empty) t) :
    ∀ (k i : Nat) (s : Shared), n - i = k → i ≤ n → St i s → TxSet P w s.heap S (mets (xs.take i)) → (∀ s', Moved (S :: wr) Gn s s' → TxSet P w s'.heap S (mets xs) → R (.ok (.ret .none)) s') →
      codeAny (model P w) A (.builtin "set.update.loop" ⟨[.ref S, .ref I], []⟩) R s := by
  have hSw : S ∉ wr := fun h => hSf (W.sub _ h)
  have hsub : ∀ b ∈ wr, b ∈ S :: wr := fun b hb => List.mem_cons_of_mem _ hb
  intro k
  induction k with
  | zero =>
    intro i s hk hi hst T hR
    obtain rfl : i = n := by omega
    refine codeAny_builtin PyProof.Rows.F.entry_set_update_loop ?_
    rw [Around.under_plainId PyProof.Rows.F.plain_set_update_loop _]
    show wpAny _ A.in1 (pyNext (.ref I) >>= _) _ _ s
    refine wpAny_bind (W.done s _ _ hst fun s' hm => ?_)
    rw [hn, List.take_length] at T
    exact wpAny_pure (hR s' (hm.mono hsub) (T.keep fun o e => hm.heap S o hSw e))
  | succ k ih =>
    intro i s hk hi hst T hR
    have hlt : i < n := by omega
    refine codeAny_builtin PyProof.Rows.F.entry_set_update_loop ?_
    rw [Around.under_plainId PyProof.Rows.F.plain_set_update_loop _]
    show wpAny _ A.in1 (pyNext (.ref I) >>= _) _ _ s
    refine wpAny_bind (W.item i s _ _ hlt hst fun v s' hP hst' hm => ?_)
    obtain ⟨t, rfl⟩ := hval i v hP
    have T' : TxSet P w s'.heap S (mets (xs.take i)) := T.keep fun o e => hm.heap S o hSw e
    show wpAny _ A.in1 (holding [Value.str (xs.getD i Str.empty) t] (setAdd S (.str (xs.getD i Str.empty) t)) >>= _) _ _ s'
    refine wpAny_bind (wpAny_holding ?_)
    unfold setAdd
    refine wpAny_holding (wpAny_bind ((PySem.strKind P w).pyHash (k := xs.getD i Str.empty) (strKind_is _ _ _ _) ?_))
    refine put_x (s := { s' with toks := s'.toks + 1 }) T' ?_ fun b h' hsb T2 => ?_
    · have := mets_len (xs.take i)
      rw [List.length_take] at this
      unfold scanBound
      omega
    have e : met (mets (xs.take i)) (xs.getD i Str.empty) = mets (xs.take (i + 1)) := by
      have hi2 : i < xs.length := by omega
      rw [List.take_succ, List.getElem?_eq_getElem hi2, List.getD_eq_getElem?_getD, List.getElem?_eq_getElem hi2, ← mets_app]
      rfl
    rw [e] at T2
    refine wpAny_pure ⟨plainId_quiet PyProof.Rows.F.plain_set_update_loop _, ih (i + 1) _ (by omega) hlt (W.frame _ s' _ _ hst' (Nat.le_succ _) fun b hb o e => ?_) T2 fun s'' hm'' T3 => ?_⟩
    · rw [hsb.2 b (fun h : b = S => hSf (by rw [← h]; exact hb))]; exact e
    · refine hR s'' (Moved.trans W.gtrans ((hm.mono hsub).then_heap (Nat.le_succ _) fun b o hb e => ?_) hm'') T3
      rw [hsb.2 b (fun h : b = S => hb (by rw [h]; exact List.mem_cons_self))]; exact e
theorem txSet_fresh {h : Heap} {a : Addr} (ho : h.get? a = some { cls := .type "set", dict := none, data := .set #[] 0 (.fresh 0 0 (!w.params.followText "set-order")) }) : TxSet P w h a [] :=
  ⟨(#[], 0, .fresh 0 0 (!w.params.followText "set-order")), ho, TxOk.nil rfl, List.nodup_nil, List.Pairwise.nil, by
    show _ ∨ (!w.params.followText "set-order") = true
    cases w.params.followText "set-order"
    · exact .inr rfl
    · exact .inl rfl⟩
set_option maxHeartbeats 6400000 in
/-- set(xs), xs a list of texts -/
theorem set_txt {l : Addr} {items : Array Value} {xs : List Str} {Q : Value → Shared → Prop} (hh : A.handled = none) (hl : s.heap.IsList l items) (hi : PyProof.Rows.StrsAre items.toList xs) (hn1 : xs.length ≤ 1000)
    (h : ∀ (h' : Heap) (tk : Nat), TxSet P w h' s.heap.objs.size (mets xs) → (∀ b o, s.heap.get? b = some o → h'.get? b = some o) → Q (.ref s.heap.objs.size) { s with heap := h', toks := tk }) :
    wpAny (model P w) A (call (.type "set") [.ref l]) Q E s := by
  have hisz : items.size = xs.length := by rw [← Array.length_toList]; exact hi.length
  obtain ⟨c, tl, hmro⟩ := PySem.F.called_set.mro
  have hmade := PySem.F.called_set.made
  have hsub := PySem.F.called_set.sub
  refine wpAny_call (codeAny_of_tree ?_)
  show wpAny _ _ (callAny (.type "set") _) _ _ _
  refine wpAny_pure ⟨Code.quiet_builtin _ (by decide +kernel), codeAny_builtin PySem.F.entry_type_call ?_⟩
  rw [Around.under_plain (weight_type_call_type "set" [.ref l] []) rfl]
  have h1 := PySem.F.called_set.notType
  have h2 := PySem.F.called_set.canCreate
  have hct := PySem.F.typeCall_set_1 (.ref l)
  repeat (any_goals (first | assumption | wp_step))
  refine codeAny_mono (code_set_led1 (.ref l) (E := E) (Q₁ := fun obj s₁ => obj = .ref s.heap.objs.size ∧ s₁ = { s with heap := s.heap.push { cls := .type "set", dict := none, data := .set #[] 0 (.fresh 0 0 (!w.params.followText "set-order")) } }) ⟨rfl, rfl⟩) fun r s₁ hr => ?_
  cases r with
  | error e => exact hr
  | ok fl =>
    cases fl with
    | ret obj =>
      obtain ⟨rfl, rfl⟩ := hr
      have hS : (s.heap.push { cls := .type "set", dict := none, data := .set #[] 0 (.fresh 0 0 (!w.params.followText "set-order")) }).get? s.heap.objs.size = some { cls := .type "set", dict := none, data := .set #[] 0 (.fresh 0 0 (!w.params.followText "set-order")) } := Heap.get?_push_size _ rfl
      have hT : Shared.TypeIs { s with heap := s.heap.push { cls := .type "set", dict := none, data := .set #[] 0 (.fresh 0 0 (!w.params.followText "set-order")) } } (.ref s.heap.objs.size) "set" := ⟨_, hS, rfl⟩
      have hli := PySem.F.called_set.init.lookup
      have hbi := PySem.F.called_set.init.bind (.ref s.heap.objs.size)
      repeat (any_goals (first | assumption | wp_step))
      refine codeAny_mono (codeAny_call_builtin (R := wants (fun r s₂ => r = .none ∧ ∃ h' tk, s₂ = { s with heap := h', toks := tk } ∧ TxSet P w h' s.heap.objs.size (mets xs) ∧
          (∀ b o, s.heap.get? b = some o → h'.get? b = some o)) E) PySem.F.called_set.init.plain PySem.F.entry_set_init (check_set_init_1 hT ?_)) fun r₂ s₂ hr₂ => ?_
      · obtain ⟨ol, hol, hcl, nl, hdl⟩ := hl
        obtain ⟨ocls, odict, odata, oslots⟩ := ol
        simp only at hcl hdl
        subst hcl; subst hdl
        have hol' : (s.heap.push { cls := .type "set", dict := none, data := .set #[] 0 (.fresh 0 0 (!w.params.followText "set-order")) }).get? l = some { cls := .type "list", dict := odict, data := .seq items nl, slots := oslots } := Heap.get?_push_of_some _ hol
        have hsls := PySem.F.sub_list_set
        have hslf := PySem.F.sub_list_frozenset
        have hne : (Value.type "list" == Value.type "dict") = false := by decide
        have hl1 : (s.heap.push { cls := .type "set", dict := none, data := .set #[] 0 (.fresh 0 0 (!w.params.followText "set-order")) }).IsList l items := ⟨_, hol', rfl, nl, rfl⟩
        unfold Builtin.«set.__init__» noKeywords Builtin.Frozenset.updateFrom
        generalize hPI : pyIter = PI
        wp_walk
        subst hPI
        refine wpAny_pyIter_list hl1 ?_
        refine wpAny_bind (wpAny_runValue ?_)
        have hlS : l < s.heap.objs.size := Heap.lt_size hol
        have hh3 : A.in1.in1.in1.handled = none := by simp [hh]
        have hneI : l ≠ (s.heap.push { cls := .type "set", dict := none, data := .set #[] 0 (.fresh 0 0 (!w.params.followText "set-order")) }).objs.size := by
          rw [Heap.size_push]; exact Nat.ne_of_lt (Nat.lt_succ_of_lt hlS)
        have hSf : s.heap.objs.size ∉ [(s.heap.push { cls := .type "set", dict := none, data := .set #[] 0 (.fresh 0 0 (!w.params.followText "set-order")) }).objs.size, l] := by
          rw [Heap.size_push]; simp only [List.mem_cons, List.mem_singleton, List.not_mem_nil, or_false, not_or]
          exact ⟨Nat.ne_of_lt (Nat.lt_succ_self _), Nat.ne_of_gt hlS⟩
        have hval : ∀ (i : Nat) (v : Value), items[i]? = some v → ∃ t, v = .str (xs.getD i Str.empty) t := fun i v hv => txt_at hi i v (by rw [Array.getElem?_toList]; exact hv)
        refine turnsT (P := P) (w := w) ((Walks.list hh3 _ l hneI items).toS) s.heap.objs.size hSf xs hisz hn1 hval (items.size - 0) 0 _ (by omega) (Nat.zero_le _)
          ⟨⟨_, Heap.get?_push_size _ rfl, rfl, rfl⟩, (hl1.push _)⟩ ?hS0 ?hR
        case hS0 =>
          exact txSet_fresh (Heap.get?_push_of_some _ hS)
        case hR =>
          intro s' hm hS'
          obtain ⟨h', g2, d', tk', os'⟩ := s'
          have eg : g2 = s.gens := hm.gens
          have ed : d' = s.drawn := hm.drawn
          have eo : os' = s.os := hm.os
          subst eg; subst ed; subst eo
          have kp : ∀ b o, s.heap.get? b = some o → h'.get? b = some o := fun b o e => by
            have hb := Heap.lt_size e
            refine hm.heap b o (fun z => ?_) (Heap.get?_push_of_some _ (Heap.get?_push_of_some _ e))
            rcases List.mem_cons.mp z with z | z
            · exact absurd z (Nat.ne_of_lt hb)
            · have z := List.mem_singleton.mp z
              rw [Heap.size_push] at z
              exact absurd z (Nat.ne_of_lt (Nat.lt_succ_of_lt hb))
          show wpAny _ _ _ _ _ _
          refine wpAny_pure ?_
          show wpAny _ _ (ret Value.none) _ _ _
          exact wpAny_pure ⟨rfl, h', tk', rfl, hS', kp⟩
      · cases r₂ with
        | error e => exact hr₂
        | ok fl₂ =>
          cases fl₂ with
          | ret r =>
            obtain ⟨rfl, h', tk, rfl, hS', hk'⟩ := hr₂
            repeat (any_goals (first | assumption | wp_step))
            exact h _ _ hS' hk'
          | _ => exact hr₂.elim
    | _ => exact hr.elim
end
end K22

set_option Elab.async false
set_option linter.all false
set_option maxRecDepth 100000
set_option maxHeartbeats 4000000
/-! S2: sorted of a set of texts; the rules. -/
namespace K22
open PySem PySem.Spec PyProof.Rows L2 PySem.Froz
section
variable {P : Program} {w : World} {A : Around} {E : Value → Shared → Prop} {s : Shared}
theorem strs_of_vals {l : List (Int × Value)} (h : ElemsOf (strKind P w) l) : ∃ ks : List Str, StrsAre (l.map (·.2)) ks ∧ ∀ z : Str, (∃ e ∈ l, (strKind P w).is z e.2 = true) ↔ z ∈ ks := by
  induction l with
  | nil => exact ⟨[], .nil, fun z => by simp⟩
  | cons e l ih =>
    obtain ⟨ks, h1, h2⟩ := ih h.tail
    obtain ⟨k, hk, _⟩ := h.head.1
    have : ∃ t, e.2 = .str k t := by
      have hk : Value.isStrOf k e.2 = true := hk
      cases he : e.2 with
      | str y t =>
        rw [he] at hk
        have : y = k := by simpa [Value.isStrOf] using hk
        exact ⟨t, by rw [this]⟩
      | _ => rw [he] at hk; cases hk
    obtain ⟨t, ht⟩ := this
    refine ⟨k :: ks, by rw [List.map_cons, ht]; exact .cons k t h1, fun z => ?_⟩
    rw [List.mem_cons, ← h2 z]
    constructor
    · rintro ⟨e', he', hz⟩
      rcases List.mem_cons.mp he' with rfl | he'
      · rw [ht] at hz
        have : k = z := by simpa [Value.isStrOf] using (show Value.isStrOf z (.str k t) = true from hz)
        exact .inl this.symm
      · exact .inr ⟨e', he', hz⟩
    · rintro (rfl | ⟨e', he', hz⟩)
      · exact ⟨e, .head _, hk⟩
      · exact ⟨e', .tail _ he', hz⟩
theorem strs_perm {vs us : List Value} (p : vs.Perm us) : ∀ {ks : List Str}, StrsAre us ks → ∃ ks', StrsAre vs ks' ∧ ks'.Perm ks := by
  induction p with
  | nil => intro ks h; exact ⟨ks, h, .refl _⟩
  | cons x _ ih =>
    intro ks h
    cases h with
    | cons k t h =>
      obtain ⟨ks', h1, h2⟩ := ih h
      exact ⟨k :: ks', .cons k t h1, h2.cons k⟩
  | swap x y l =>
    intro ks h
    cases h with
    | cons k t h =>
      cases h with
      | cons k' t' h => exact ⟨k' :: k :: _, .cons k' t' (.cons k t h), .swap _ _ _⟩
  | trans _ _ ih1 ih2 =>
    intro ks h
    obtain ⟨k1, a1, b1⟩ := ih2 h
    obtain ⟨k2, a2, b2⟩ := ih1 a1
    exact ⟨k2, a2, b2.trans b1⟩
theorem sorted_txt {a : Addr} {l : List Str} {Q : Value → Shared → Prop} (T : TxSet P w s.heap a l) (hh : A.handled = none) (h64 : l.length < 64)
    (hQ : ∀ s' p (out : Array Value) (c : Nat) (ys : List Str), (∀ b o, s.heap.get? b = some o → s'.heap.get? b = some o) → s'.gens = s.gens → s'.os = s.os → s.heap.objs.size ≤ p →
      s'.heap.get? p = some (seqObj "list" out c) → StrsAre out.toList ys → (∀ z, z ∈ ys ↔ z ∈ l) → ys.length = l.length → sortedS ys = true → Q (.ref p) s') :
    wpAny (model P w) A (call (.builtin "sorted") [.ref a]) Q E s := by
  obtain ⟨⟨es, ep, t⟩, ho, F, nd, r, ld⟩ := T.ex
  have hsz : es.size = l.length := F.sz
  refine Calls.call_function_entry kind_sorted plain_sorted entry_sorted (args_sorted1 _) ?_
  unfold Builtin.«sorted»
  refine wpAny_bind (m := checkCount "sorted" 1 1 _) (wpAny_pure ?_)
  refine wpAny_bind (collect_set (A := A.in1) hh ⟨_, ho, rfl, rfl⟩ F.fit (by show es.size < scanBound; unfold scanBound; omega) r ld fun s1 vs k1 hz g1 o1 pm => ?_)
  obtain ⟨ks, hs1, hm1⟩ := strs_of_vals F.el
  obtain ⟨ks2, hs2, hp2⟩ := strs_perm pm hs1
  have hvl : vs.length = l.length := by rw [pm.length_eq, List.length_map, Array.length_toList, hsz]
  refine wpAny_bind (wpAny_newList ?_ (by rw [sizeLine_eq]; omega))
  have hoL : (s1.heap.push (seqObj "list" vs.toArray 0)).get? s1.heap.objs.size = some (seqObj "list" vs.toArray 0) := Heap.get?_push_size _ rfl
  refine wpAny_bind (wpAny_holding (wpAny_call_entry PyProof.Rows.slot_list_sort ⟨_, hoL, rfl⟩ PyProof.Rows.entry_list_sort
    (list_sort_treeKAny strKind_oneLt hoL hs2.keysOf (fun v₁ v₂ rest e => keyKind_strs (by rw [← e]; exact hs2)) (by rw [sizeLine_eq]; omega) fun st' a1 a2 => ⟨_, rfl, ?_⟩) (PyProof.Rows.args_list_sort _)))
  obtain ⟨ys, b1, b2, b3⟩ := sorted_out_str hs2 a1 a2
  obtain ⟨c, hc⟩ := sortedHeap_at (vs := vs) (out := (arrOf st').map (·.2)) hoL
  have py : ys.Perm ks := b2.trans hp2
  refine wpAny_pure ⟨_, rfl, hQ _ s1.heap.objs.size _ c ys (fun b u e => ?_) g1 o1 hz hc b1 (fun z => ?_) ?_ b3⟩
  · have q := k1 b u e
    have hlt := Heap.lt_size q
    show (sortedHeap (s1.heap.push (seqObj "list" vs.toArray 0)) s1.heap.objs.size vs _).get? b = some u
    rw [sortedHeap_old (Nat.ne_of_lt hlt) (by rw [size_push']; exact Nat.lt_succ_of_lt hlt)]
    exact Heap.get?_push_of_some _ q
  · rw [py.mem_iff, ← hm1 z]
    exact (F.mem z).symm
  · rw [py.length_eq, ← hs1.length, List.length_map, Array.length_toList, hsz]
end
/-! ### the rules -/
def TxO (P : Program) (w : World) (a : Addr) (l : List Str) : HO := .ext fun h => TxSet P w h a l
theorem txO_new {P : Program} {w : World} {H : Hp} {h : Heap} {a : Addr} {l : List Str} (T : TxSet P w h a l) : ObjOk P w H h a (TxO P w a l) := by
  obtain ⟨D, ho, _⟩ := id T.ex
  exact ⟨T, ⟨_, ho⟩, fun h1 h2 p k => TxSet.keep p k⟩
section
variable {X : Cx}
/-- set(xs) -/
def rSetT (K : PySem.W.Frag) (P : Program) (w : World) : List V → Hp → VK → Prop := fun xs H Q => ∃ (l : Addr) (zs : List Str), xs = [V.ref l] ∧ SqL K H l (zs.map V.str) ∧ zs.length ≤ 1000 ∧ ∀ a, H a = none → Q (.ref a) (upd H a (TxO P w a (mets zs)))
theorem cr_setT (hc : X.calm = true) : CallR X (.type "set") (rSetT X.K X.prog X.w) := by
  intro pins s σ H xs us Q I r h
  obtain ⟨l, zs, rfl, hl, hz, q⟩ := h
  rw [Vals.ref1 r]
  obtain ⟨its, rv, pl, _⟩ := I.list hl
  have hn : H s.heap.objs.size = none := I.hok.fresh (Nat.le_refl _)
  refine set_txt (P := X.prog) (w := X.w) (I.ok.hd hc) pl.isList rv.strs hz fun h' tk T k => ?_
  exact ⟨.ref s.heap.objs.size, upd H s.heap.objs.size (TxO X.prog X.w s.heap.objs.size (mets zs)), I.laid (t' := tk) k (Nat.le_refl _) (txO_new T), rfl, q _ hn⟩
/-- sorted(s), s such a set -/
def rSortedX (P : Program) (w : World) : List V → Hp → VK → Prop := fun xs H Q => ∃ (a : Addr) (l : List Str), xs = [V.ref a] ∧ H a = some (TxO P w a l) ∧ l.length < 64 ∧
  ∀ (ys : List Str) (p : Addr), (∀ z, z ∈ ys ↔ z ∈ l) → ys.length = l.length → sortedS ys = true → H p = none → Q (.ref p) (upd H p (.lst (ys.map V.str)))
theorem cr_sortedX (hc : X.calm = true) : CallR X (.builtin "sorted") (rSortedX X.prog X.w) := by
  intro pins s σ H xs us Q I r h
  obtain ⟨a, l, rfl, ha, h64, q⟩ := h
  have T : TxSet X.prog X.w s.heap a l := (I.hok a _ ha).1
  rw [Vals.ref1 r]
  refine sorted_txt T (I.ok.hd hc) h64 fun s' p out c ys k g o hp hg hi hm hlen hs => ?_
  have hl : (ys.map V.str).length ≤ sizeLine := by rw [List.length_map, hlen, sizeLine_eq]; omega
  have hn : H p = none := I.hok.fresh hp
  have J : Inv X pins σ (upd H p (.lst (ys.map V.str))) { s with heap := s'.heap, gens := s'.gens, drawn := s'.drawn, toks := s'.toks } :=
    I.call (ch := []) (Un.laid k hp hn) (I.hok.laid k hp ⟨hl, out.toList, c, vals_of_strs hi, hg⟩) (by rw [g]; exact I.bare) (fun _ z => nomatch z)
  have e : s' = { s with heap := s'.heap, gens := s'.gens, drawn := s'.drawn, toks := s'.toks } := by
    cases s'
    cases s
    cases o
    rfl
  rw [e]
  exact ⟨.ref p, _, J, rfl, q ys p hm hlen hs hn⟩
end
end K22

set_option Elab.async false
set_option linter.all false
set_option maxRecDepth 100000
set_option maxHeartbeats 4000000
/-! M1: plain: texts in order, tables. -/
namespace K22
open PySem PySem.Spec PyProof.Rows L2
/-! ### the order of texts -/
theorem sLt_irrefl (a : Str) : sLt a a = false := decide_eq_false (List.lt_irrefl _)
theorem sLt_trans {a b c : Str} (h1 : sLt a b = true) (h2 : sLt b c = true) : sLt a c = true := decide_eq_true (List.lt_trans (of_decide_eq_true h1) (of_decide_eq_true h2))
theorem sLt_asymm {a b : Str} (h1 : sLt a b = true) : sLt b a = false := by
  cases h : sLt b a with
  | false => rfl
  | true =>
    have := sLt_trans h1 h
    rw [sLt_irrefl] at this
    cases this
theorem sLt_conn {a b : Str} (h1 : sLt a b = false) (h2 : sLt b a = false) : a = b := by
  refine TL.ext_tl ?_
  have h1 := of_decide_eq_false h1
  have h2 := of_decide_eq_false h2
  exact List.le_antisymm (List.not_lt.mp h2) (List.not_lt.mp h1)
theorem sLt_ne {a b : Str} (h : sLt a b = true) : a ≠ b := fun e => by rw [e, sLt_irrefl] at h; cases h
def sLe (a b : Str) : Bool := !sLt b a
theorem sLe_trans {a b c : Str} (h1 : sLe a b = true) (h2 : sLe b c = true) : sLe a c = true := by
  unfold sLe at *
  cases h : sLt c a with
  | false => rfl
  | true =>
    by_cases e : a = b
    · subst e; rw [h] at h2; cases h2
    · have hab : sLt a b = true := by
        cases q : sLt a b with
        | true => rfl
        | false => exact absurd (sLt_conn q (by simpa using h1)) e
      rw [sLt_trans h hab] at h2
      cases h2
theorem sLe_total (a b : Str) : (sLe a b || sLe b a) = true := by
  unfold sLe
  cases h : sLt b a with
  | false => rfl
  | true => rw [sLt_asymm h]; rfl
theorem sLe_antisymm {a b : Str} (h1 : sLe a b = true) (h2 : sLe b a = true) : a = b := sLt_conn (by simpa [sLe] using h2) (by simpa [sLe] using h1)
/-- sorted texts -/
def sortT (l : List Str) : List Str := l.mergeSort sLe
theorem sortT_perm (l : List Str) : (sortT l).Perm l := List.mergeSort_perm l sLe
theorem sortT_pw (l : List Str) : (sortT l).Pairwise (fun a b => sLe a b = true) := List.pairwise_mergeSort (le := sLe) (fun a b c h1 h2 => sLe_trans h1 h2) sLe_total l
theorem pw_unique : ∀ {xs ys : List Str}, xs.Pairwise (fun a b => sLe a b = true) → ys.Pairwise (fun a b => sLe a b = true) → xs.Perm ys → xs = ys
  | [], ys, _, _, p => (List.nil_perm.mp p).symm
  | x :: xs, [], _, _, p => absurd (List.perm_nil.mp p) (by simp)
  | x :: xs, y :: ys, h1, h2, p => by
    obtain ⟨a1, a2⟩ := List.pairwise_cons.mp h1
    obtain ⟨b1, b2⟩ := List.pairwise_cons.mp h2
    have e : x = y := by
      have hx : x ∈ y :: ys := p.mem_iff.mp (.head _)
      have hy : y ∈ x :: xs := p.mem_iff.mpr (.head _)
      rcases List.mem_cons.mp hx with e | hx
      · exact e
      · rcases List.mem_cons.mp hy with e | hy
        · exact e.symm
        · exact sLe_antisymm (a1 y hy) (b1 x hx)
    subst e
    rw [pw_unique a2 b2 ((List.perm_cons x).mp p)]
theorem rising_pw : ∀ {r : List Str} {x : Str}, risingS x r = true → (x :: r).Pairwise (fun a b => sLe a b = true)
  | [], x, _ => List.pairwise_singleton _ _
  | y :: r, x, h => by
    have h : (!ltCps y.cps.toList x.cps.toList && risingS y r) = true := h
    rw [Bool.and_eq_true] at h
    have hxy : sLe x y = true := by
      unfold sLe sLt
      rw [← ltCps_eq]
      exact h.1
    have ih := rising_pw h.2
    refine List.pairwise_cons.mpr ⟨fun z hz => ?_, ih⟩
    rcases List.mem_cons.mp hz with rfl | hz
    · exact hxy
    · exact sLe_trans hxy ((List.pairwise_cons.mp ih).1 z hz)
theorem sortedS_pw {l : List Str} (h : sortedS l = true) : l.Pairwise (fun a b => sLe a b = true) := by
  cases l with
  | nil => exact List.Pairwise.nil
  | cons x r => exact rising_pw h
theorem sortT_eq {ys l : List Str} (h : sortedS ys = true) (p : ys.Perm l) : ys = sortT l := pw_unique (sortedS_pw h) (sortT_pw l) (p.trans (sortT_perm l).symm)
theorem strict_of {l : List Str} (h : l.Pairwise (fun a b => sLe a b = true)) (nd : l.Nodup) : l.Pairwise (fun a b => sLt a b = true) :=
  (h.and nd).imp fun {a b} ⟨h1, h2⟩ => by
    cases q : sLt a b with
    | true => rfl
    | false => exact absurd (sLt_conn q (by simpa [sLe] using h1)) h2
theorem strict_le {l : List Str} (h : l.Pairwise (fun a b => sLt a b = true)) : l.Pairwise (fun a b => sLe a b = true) := h.imp fun {a b} q => by unfold sLe; rw [sLt_asymm q]; rfl
theorem strict_nd {l : List Str} (h : l.Pairwise (fun a b => sLt a b = true)) : l.Nodup := h.imp fun {a b} q => sLt_ne q
theorem sortT_of_strict {l xs : List Str} (h : l.Pairwise (fun a b => sLt a b = true)) (p : l.Perm xs) : sortT xs = l := (pw_unique (strict_le h) (sortT_pw xs) (p.trans (sortT_perm xs).symm)).symm
/-! ### texts met once -/
theorem met_nodup {l : List Str} {k : Str} (h : l.Nodup) : (met l k).Nodup := by
  unfold met
  split
  · exact h
  · exact List.nodup_cons.mpr ⟨by assumption, h⟩
theorem mets_nodup (xs : List Str) : (mets xs).Nodup := by
  have key : ∀ (xs l : List Str), l.Nodup → (xs.foldl met l).Nodup := by
    intro xs
    induction xs with
    | nil => intro l h; exact h
    | cons x xs ih => intro l h; exact ih _ (met_nodup h)
  exact key xs [] List.nodup_nil
theorem perm_of_mem : ∀ {l ks : List Str}, l.Nodup → (∀ z, z ∈ l → z ∈ ks) → ks.length = l.length → l.Perm ks
  | [], ks, _, _, hl => by rw [List.length_eq_zero_iff.mp (hl.trans rfl)]
  | x :: r, ks, nd, h, hl => by
    obtain ⟨n1, n2⟩ := List.nodup_cons.mp nd
    have hx := h x (.head _)
    have hp := List.perm_cons_erase hx
    have hlen := List.length_erase_of_mem hx
    have ih := perm_of_mem (ks := ks.erase x) n2 (fun z hz => (List.mem_erase_of_ne (fun e : z = x => n1 (by rw [← e]; exact hz))).mpr (h z (.tail _ hz))) (by rw [hlen, hl]; rfl)
    exact (ih.cons x).trans hp.symm
/-- sorted(set(..)) -/
def uniqT (l : List Str) : List Str := sortT (mets l)
theorem uniqT_mem {l : List Str} {z : Str} : z ∈ uniqT l ↔ z ∈ l := by rw [uniqT, (sortT_perm _).mem_iff, mem_mets]
theorem uniqT_strict (l : List Str) : (uniqT l).Pairwise (fun a b => sLt a b = true) := strict_of (sortT_pw _) ((sortT_perm _).nodup_iff.mpr (mets_nodup l))
theorem uniqT_eq {l ys : List Str} (hm : ∀ z, z ∈ ys ↔ z ∈ mets l) (hl : ys.length = (mets l).length) (hs : sortedS ys = true) : ys = uniqT l :=
  sortT_eq hs (perm_of_mem (mets_nodup l) (fun z hz => (hm z).mpr hz) hl).symm
theorem strict_unique {xs ys : List Str} (h1 : xs.Pairwise (fun a b => sLt a b = true)) (h2 : ys.Pairwise (fun a b => sLt a b = true)) (h : ∀ z, z ∈ xs ↔ z ∈ ys) : xs = ys :=
  pw_unique (strict_le h1) (strict_le h2) ((List.perm_ext_iff_of_nodup (strict_nd h1) (strict_nd h2)).mpr h)
theorem uniqT_congr {l m : List Str} (h : ∀ z, z ∈ l ↔ z ∈ m) : uniqT l = uniqT m := strict_unique (uniqT_strict l) (uniqT_strict m) fun z => by rw [uniqT_mem, uniqT_mem, h]
theorem uniqT_len_le (l : List Str) : (uniqT l).length ≤ l.length := by rw [uniqT, (sortT_perm _).length_eq]; exact mets_len l
/-! ### tables -/
structure Tb where
  day : Int
  rows : List Tr
deriving DecidableEq
def ends (ts : List Tr) : List Str := ts.flatMap fun t => [t.start, t.goal]
def places (ts : List Tr) : List Str := uniqT (ends ts)
def Tb.names (T : Tb) : List Str := T.rows.map (·.name)
structure Tb.Ok (T : Tb) : Prop where
  d0 : 1 ≤ T.day
  d1 : T.day ≤ 1000000000000
  tr : ∀ t ∈ T.rows, t.Ok
  lv : ∀ t ∈ T.rows, t.leaves < T.day
  srt : T.names.Pairwise (fun a b => sLt a b = true)
  len : T.rows.length ≤ 31
  bal : ∀ z : Str, (T.rows.filter fun t => decide (t.goal = z)).length = (T.rows.filter fun t => decide (t.start = z)).length
  few : (places T.rows).length ≤ 8
theorem mem_ends {ts : List Tr} {z : Str} : z ∈ ends ts ↔ ∃ t ∈ ts, z = t.start ∨ z = t.goal := by
  unfold ends
  rw [List.mem_flatMap]
  simp
theorem places_perm {ts us : List Tr} (p : ts.Perm us) : places ts = places us := uniqT_congr fun z => by
  rw [mem_ends, mem_ends]
  exact ⟨fun ⟨t, h, e⟩ => ⟨t, p.mem_iff.mp h, e⟩, fun ⟨t, h, e⟩ => ⟨t, p.mem_iff.mpr h, e⟩⟩
end K22

set_option Elab.async false
set_option linter.all false
set_option maxRecDepth 100000
set_option maxHeartbeats 4000000
/-! R7: rules: {x:013d}, != of sequences of the same objects, enumerate(tuple), C(**d), {**d, k: v}. -/
namespace K22
open PySem PySem.Spec PyProof.Rows L2 PySem.SeqAt
/-! ### {x:013d} -/
def pad13 (i : Int) : Str := ⟨(List.replicate (13 - (Nat.toDigits 10 i.natAbs).length) 48).toArray⟩ ++ Str.ofString (toString i)
section
variable {X : Cx}
def tFmtZ (te ts : TE) : TE := fun σ H Q => te σ H fun x H1 => ts σ H1 fun y H2 => ∃ i : Int, x = .int i ∧ y = .str "013d" ∧ 0 ≤ i ∧ i < 10 ^ 18 ∧ Q (.str (pad13 i)) H2
theorem noDigits_of {K : PySem.W.Frag} {h : Heap} (X : K.In h) (d : PySem.W.nsOkIn K cStatics = true ∧ PySem.W.nsIn K cStatics "sys.int_max_str_digits" = some none) : h.NoDigits :=
  ⟨_, .of_isNs (PySem.W.isNs_of_in X d.1), PySem.W.nsMap_none_of_in X d.1 d.2⟩
theorem pe_fmtZ {e sp : Expr} {te ts : TE} {pos : Pos} (d : PySem.W.nsOkIn X.K cStatics = true ∧ PySem.W.nsIn X.K cStatics "sys.int_max_str_digits" = some none) (he : PE X e te) (hs : PE X sp ts) : PE X (.FormattedValue e (-1) (some sp) pos) (tFmtZ te ts) := by
  refine ⟨fun pins s σ H Q I h => ?_⟩
  refine wpAny_FormattedValue_spec (thn (he.run pins s σ H _ I h) fun v s1 ⟨x, H1, I1, r1, q1⟩ => thn (hs.run pins s1 σ H1 _ I1 q1) fun u s2 ⟨y, H2, I2, r2, i, ex, ey, h0, h1, q⟩ => ?_)
  subst ex ey
  obtain ⟨t, rfl⟩ := r1
  obtain ⟨t2, rfl⟩ := r2
  refine ⟨_, _, rfl, formatField_int_specOf (noDigits_of I2.kIn d) (lt_digitLimit_of_lt (by omega)) (by decide +kernel) (fun W hW F => ?_)⟩
  have eW : W = 13 := hW.trans (by decide +kernel)
  have e := F.zeroG (by decide +kernel) h0
  rw [eW] at e
  rw [e]
  exact ⟨.str (pad13 i), H2, I2.tok _, ⟨_, rfl⟩, q⟩
/-! ### != of sequences of the same objects -/
theorem eqAt_same {A : Around} {s : Shared} (a : Addr) : EqAt A s (.ref a) (.ref a) true := fun prog w E Q h => by
  unfold eqBool
  refine wpAny_holding ?_
  rw [if_pos (by simp)]
  exact wpAny_bind (wpAny_rule (wpAny_pure h))
theorem refs_vals : ∀ {zs : List Addr} {its : List Value}, Vals (zs.map V.ref) its → its = zs.map Value.ref
  | [], _, .nil => rfl
  | z :: zs, _, .cons r1 r2 => by
    cases r1
    rw [refs_vals r2]
    rfl
theorem op_neL (hu : X.A.units < cLine) : OpR X (compareOp .NotEq) (fun x y H Q => ∃ p q, ∃ zs : List Addr, x = .ref p ∧ y = .ref q ∧ ((SqL X.K H p (zs.map V.ref) ∧ SqL X.K H q (zs.map V.ref)) ∨ (SqT X.K H p (zs.map V.ref) ∧ SqT X.K H q (zs.map V.ref))) ∧ Q (.bl false) H) := by
  intro pins s σ H x y v u Q I rx ry hq
  obtain ⟨p, q, zs, rfl, rfl, hs, k⟩ := hq
  cases rx
  cases ry
  have refs : ∀ {its : List Value}, Vals (zs.map V.ref) its → its = zs.map Value.ref := fun r => refs_vals r
  show wpAny _ _ (richCompare .NotEq (.ref p) (.ref q)) _ _ s
  have fin : ∀ b : Bool, b = false → EP X pins σ Q (.bool b) s := fun b e => by
    subst e
    exact ⟨.bl false, H, I, rfl, k⟩
  rcases hs with ⟨h1, h2⟩ | ⟨h1, h2⟩
  · obtain ⟨i1, r1, l1, _⟩ := I.list h1
    obtain ⟨i2, r2, l2, _⟩ := I.list h2
    rw [refs r1] at l1
    rw [refs r2] at l2
    refine RcNeAt.lists (e := fun _ => true) l1.isList l2.isList rfl hu (fun j h1 h2 => ?_) X.prog X.w _ _ (fin _ ?_)
    · simp only [List.getElem_toArray, List.getElem_map]
      exact eqAt_same _
    · simp
  · obtain ⟨i1, r1, l1, _⟩ := I.tuple h1
    obtain ⟨i2, r2, l2, _⟩ := I.tuple h2
    rw [refs r1] at l1
    rw [refs r2] at l2
    refine RcNeAt.tuples (e := fun _ => true) l1 l2 hu (fun j h1 h2 => ?_) X.prog X.w _ _ (fin _ ?_)
    · simp only [List.getElem_toArray, List.getElem_map]
      exact eqAt_same _
    · simp
end
end K22

set_option Elab.async false
set_option linter.all false
set_option maxRecDepth 100000
set_option maxHeartbeats 4000000
/-! R8: C(**d), C(); {**d, k: v}. -/
namespace K22
open PySem PySem.Spec PyProof.Rows L2
section
variable {M : Model} {A : Around} {E : Value → Shared → Prop} {s : Shared} {K : PySem.W.Frag}
/-- a call with one ** -/
theorem callWith_kk {f : Value} {pos : Pos} {x : Sem Value} {Q : Value → Shared → Prop} (hk : PySem.W.keepIn K f = true)
    (h : wpAny M A (mergedKeywords f [(none, x)]) (fun d s₁ => wpAny M A (keywordsIn f d) (fun kw s₂ => K.In s₂.heap ∧ wpAny M A (call f [] kw) Q E s₂) E s₁) E s) : wpAny M A (callWith pos f [] [] [(none, x)]) Q E s := by
  unfold callWith
  have ev : wpAny M A (evalArgs f true [] [(none, x)]) (fun a s₁ => K.In s₁.heap ∧ wpAny M A (call f a.pos a.kw) Q E s₁) E s := by
    unfold evalArgs
    dsimp only
    refine wpAny_bind (Calls.spliced_nil ?_)
    first | refine wpAny_bind (wpAny_pure ?_) | skip
    refine wpAny_holding ?_
    simp only [List.all_cons, List.all_nil, Option.isSome_none, Bool.false_and, Bool.false_eq_true, if_false]
    refine wpAny_bind (wpAny_mono h (fun d s₁ h₁ => ?_) fun _ _ z => z)
    refine wpAny_bind (wpAny_pure ?_)
    exact wpAny_bind (wpAny_holding (wpAny_mono h₁ (fun kw s₂ h₂ => wpAny_pure h₂) fun _ _ z => z))
  refine wpAny_bind (wpAny_holding (wpAny_mono ev (fun a s₁ h₁ => wpAny_bind (wpAny_standAt ?_)) fun _ _ z => z))
  obtain ⟨k, hk', L⟩ := PySem.W.keeps_K (M := M) hk _ h₁.1
  have st : (([] : List (Bool × Sem Value)).any (·.1) || [((none : Option Str), x)].any (·.1.isNone)) = true := rfl
  simp only [st]
  refine wpAny_bind (L.here ?_)
  have q : wpAny M A (call f ([] ++ a.pos) a.kw) Q E s₁ := h₁.2
  have tail : ∀ {t : Sem Value}, wpAny M A t Q E s₁ → wpAny M A (t >>= fun r => holding [r] point >>= fun _ => pure r) Q E s₁ := fun ht => wpAny_bind (wpAny_mono ht (fun r s₂ hr => wpAny_bind (wpAny_holding (wpAny_point (wpAny_pure hr)))) fun _ _ z => z)
  have marked (mk : Value) : wpAny M A (callMarked mk f ([] ++ a.pos) a.kw) Q E s₁ := by unfold callMarked; exact Calls.wpAny_keep q
  rcases hk' with rfl | rfl | rfl <;> dsimp only <;> first | exact tail (marked _) | exact tail (wpAny_operating q)
end
section
variable {prog : Program} {w : World} {A : Around} {E : Value → Shared → Prop} {s : Shared}
theorem merged_one {f : Value} {x : Sem Value} {Q : Addr → Shared → Prop}
    (h : wpAny (model prog w) A x (fun m s₁ => wpAny (model prog w) A (mergeMapping s.heap.objs.size m true) (fun _ s₂ => Q s.heap.objs.size s₂) (fun _ _ => False) s₁) E { s with heap := s.heap.push ({ cls := .type "dict", data := .dict #[] } : Obj) }) :
    wpAny (model prog w) A (mergedKeywords f [(none, x)]) Q E s := by
  unfold mergedKeywords
  refine wpAny_bind (wpAny_alloc ?_)
  dsimp only
  refine wpAny_bind (wpAny_holding ?_)
  rw [List.forIn_cons]
  dsimp only
  refine wpAny_bind (wpAny_bind ?_)
  first | refine wpAny_bind (PySem.W.KFB.if_so rfl (wpAny_pure ?_)) | (rw [if_pos (by rfl)]; refine wpAny_bind (wpAny_pure ?_)) | (rw [if_pos (by rfl)]; refine wpAny_pure ?_) | (rw [if_pos (by rfl)])
  first | refine wpAny_bind (wpAny_mono h (fun m s₁ h₁ => ?_) fun _ _ z => z) | refine wpAny_bind (wpAny_bind (wpAny_mono h (fun m s₁ h₁ => ?_) fun _ _ z => z))
  refine wpAny_bind (wpAny_onRaise (wpAny_holding (wpAny_tryCatch (wpAny_onRaise ?_))))
  refine wpAny_mono h₁ (fun u s₂ h₂ => ?_) fun _ _ z => z.elim
  refine wpAny_pure ?_
  dsimp only
  rw [List.forIn_nil]
  refine wpAny_pure ?_
  first | refine wpAny_bind (PySem.W.KFB.if_so rfl (wpAny_pure ?_)) | (rw [if_pos (by rfl)]; refine wpAny_bind (wpAny_pure ?_)) | (rw [if_pos (by rfl)]; refine wpAny_pure ?_) | (rw [if_pos (by rfl)])
  exact wpAny_pure (wpAny_pure h₂)
theorem mix_str {k : Str} {v : Value} (h : (mixKind prog w).is (Sum.inr k : Key) v = true) : ∃ t, v = .str k t := by
  have h : Value.isStrOf k v = true := h
  cases v with
  | str y t =>
    have : y = k := by simpa [Value.isStrOf] using h
    exact ⟨t, by rw [this]⟩
  | _ => cases h
/-- the names and values of a dict with text keys -/
theorem keysIn {f : Value} {d : Addr} {kvs : List (Key × Value)} {ps : List (Str × Value)} {Q : List (Str × Value) → Shared → Prop} (hd : s.heap.DictOf (mixKind prog w) d kvs) (he : kvs = ps.map fun p => ((Sum.inr p.1 : Key), p.2)) (hsz : kvs.length ≤ sizeLine) (h : Q ps s) : wpAny (model prog w) A (keywordsIn f d) Q E s := by
  obtain ⟨o, es, ep, ho, hc, hdt, hk, hp, hn⟩ := id hd
  unfold keywordsIn
  have hlen : es.size ≤ sizeLine := by rw [← Array.length_toList, hp.length]; exact hsz
  refine wpAny_bind (wpAny_dictEntries ho hdt ?_)
  refine wpAny_bind ?_
  rw [← Array.forIn_toList]
  refine wpAny_forIn_list _ (fun rest st s' => s' = s ∧ ∃ b, ps = st ++ b ∧ Pairs (mixKind prog w) rest (b.map fun p => ((Sum.inr p.1 : Key), p.2))) _ ?_ ?_ _ _ ⟨rfl, ps, rfl, by rw [← he]; exact hp⟩
  · rintro x rest st s' ⟨rfl, b, hb, pr⟩
    cases b with
    | nil => cases pr
    | cons p b =>
      cases pr with
      | cons h1 h2 h3 =>
        obtain ⟨t, ht⟩ := mix_str h1
        rw [ht]
        refine wpAny_pure ⟨rfl, b, ?_, h3⟩
        rw [hb, h2, List.append_assoc]
        rfl
  · rintro st s' ⟨rfl, b, hb, pr⟩
    cases b with
    | nil =>
      rw [List.append_nil] at hb
      subst hb
      exact wpAny_pure h
    | cons p b => cases pr
end
/-! ### C(**d) -/
theorem merged_kv : ∀ {kvs more : List (Key × Value)} {a b : List (Key × V)}, KV a kvs → KV b more → KV (mergeK a b) (merged kvs more) := by
  intro kvs more a b h1 h2
  induction h2 generalizing kvs a with
  | nil => exact h1
  | cons r _ ih =>
    obtain ⟨e, rv⟩ := r
    show KV (mergeK (putK _ _ _) _) (merged (stored _ _ _) _)
    refine ih ?_
    rw [← e]
    exact h1.put _ rv
theorem inrs_of {kvs : List (Str × V)} : ∀ {vs : List (Key × Value)}, KV (inrs kvs) vs → ∃ ws : List Value, Vals (kvs.map (·.2)) ws ∧ vs = ((kvs.map (·.1)).zip ws).map fun p => ((Sum.inr p.1 : Key), p.2) := by
  induction kvs with
  | nil =>
    intro vs h
    cases h
    exact ⟨[], .nil, rfl⟩
  | cons p kvs ih =>
    intro vs h
    cases h with
    | cons r h =>
      obtain ⟨e, rv⟩ := r
      obtain ⟨ws, h1, h2⟩ := ih h
      rename_i q vs'
      obtain ⟨q1, q2⟩ := q
      cases e
      exact ⟨q2 :: ws, .cons rv h1, by rw [h2]; rfl⟩
theorem zip_self : ∀ (kvs : List (Str × V)), (kvs.map (·.1)).zip (kvs.map (·.2)) = kvs
  | [] => rfl
  | p :: kvs => by rw [List.map_cons, List.map_cons, List.zip_cons_cons, zip_self kvs]
def tKw (C : Addr) (sp : V → List (Str × V) → Hp → VK → Prop) (te : TE) : TE := fun σ H Q => ∀ D, H D = none → te σ (upd H D (.dK [])) fun x H1 => ∃ (o : Addr) (kvs : List (Str × V)), x = .ref o ∧ H1 D = some (.dK []) ∧ H1 o = some (.dK (inrs kvs)) ∧ D ≠ o ∧ (kvs.map (·.1)).Nodup ∧ kvs.length ≤ 1000 ∧
  ∀ y dx, upd H1 D (.dK (inrs kvs)) y = none → upd H1 D (.dK (inrs kvs)) dx = none → dx ≠ y → sp (.ref y) kvs (upd (upd (upd H1 D (.dK (inrs kvs))) dx (.own y)) y (.ins C dx [])) (fun v H3 => v = .non ∧ Q (.ref y) H3)
section
variable {X : Cx} {k n : Nat} {f C : Addr} {sp : V → List (Str × V) → Hp → VK → Prop} {x : Str} {p pos kp : Pos} {e : Expr} {te : TE}
theorem run_mkKw {pins : List (Addr × Obj)} {σ : L2.St} {H : Hp} {s : Shared} {Q : VK} {ks : List Str} {ws : List Value} {zs : List V} (M : Mk X.K C f) (F : FnKw X.prog X.w X.K X.mg X.base k f sp) (hr : Room (k + 1) X.A) (I : Inv X pins σ H s) (r : Vals zs ws) (hl : ks.length = ws.length)
    (h : ∀ x dx, H x = none → H dx = none → dx ≠ x → sp (.ref x) (ks.zip zs) (upd (upd H dx (.own x)) x (.ins C dx [])) (fun v H2 => v = .non ∧ Q (.ref x) H2)) : wpAny (model X.prog X.w) X.A (call (.ref C) [] (ks.zip ws)) (EP X pins σ Q) X.xe s := by
  have hq := h (s.heap.objs.size + 1) s.heap.objs.size (I.hok.fresh (Nat.le_succ _)) (I.hok.fresh (Nat.le_refl _)) (Nat.ne_of_lt (Nat.lt_succ_self _))
  have I2 := Inv.made (C := C) I
  refine wpAny_call (make_map (f := f) I.kIn M.makes M.init (beq_iff_eq.mp M.fn) (codeAny_mono (F _ X.stack _ _ (Value.ref (s.heap.objs.size + 1)) (.ref (s.heap.objs.size + 1)) ks ws zs _ (hr.make C [] (ks.zip ws)) (I2.env0.make C [] (ks.zip ws)) rfl r hl hq) fun r s' hq' => ?_))
  cases r with
  | error e => exact hq'.elim
  | ok fl =>
    cases fl with
    | ret u =>
      obtain ⟨v, H', I3, rv, ev, q3⟩ := I2.after hq'
      subst ev
      exact ⟨rv, ⟨V.ref (s.heap.objs.size + 1), H', I3, rfl, q3⟩⟩
    | next => exact False.elim hq'
    | brk => exact False.elim hq'
    | cont => exact False.elim hq'
/-- C(**e) -/
theorem pe_kw (M : Mk X.K C f) (F : FnKw X.prog X.w X.K X.mg X.base k f sp) (hr : Room n X.A) (hm : X.mg x = some (.ref C)) (he : PE X e te) (hk : k + 1 ≤ n := by decide) (hg : Gl X x := by rfl) (hdb : (x == ("__debug__" : Str)) = false := by decide)
    (hkw : backToKw pos (keywordEach [⟨none, e, kp⟩] X.env) = [(none, do let v ← eval e X.env; standAt pos; pure v)] := by rfl) : PE X (.Call (.Name x p) [] [⟨none, e, kp⟩] pos) (tKw C sp te) := by
  refine ⟨fun pins s σ H Q I h => ?_⟩
  refine wpAny_Call_Name_kw (ld_glob I hg hm ?_ hdb)
  rw [hkw]
  refine callWith_kk M.kp (merged_one ?_)
  have hn := I.hok.fresh (Nat.le_refl s.heap.objs.size)
  have I0 : Inv X pins σ (upd H s.heap.objs.size (.dK [])) { s with heap := s.heap.push ({ cls := .type "dict", data := .dict #[] } : Obj) } := I.laid (t' := s.toks) (fun b o e => Heap.get?_push_of_some _ e) (Nat.le_refl _) (dk_empty _ I.big)
  refine wpAny_bind (thn (he.run pins _ σ _ _ I0 (h _ hn)) fun u s1 ⟨v, H1, I1, rv, o, kvs, ev, hD, ho, hne, nd, hl, q⟩ => wpAny_bind (wpAny_standAt (wpAny_pure ?_)))
  subst ev
  cases rv
  obtain ⟨z1, n1, vs1, r1, d1⟩ := dk_of I1.hok hD
  obtain ⟨z2, n2, vs2, r2, d2⟩ := dk_of I1.hok ho
  cases r1
  obtain ⟨ws, rw1, ew⟩ := inrs_of r2
  have nd2 : (vs2.map (·.1)).Nodup := by
    obtain ⟨_, _, _, _, _, _, _, _, nn⟩ := d2
    exact nn
  have hl2 : vs2.length ≤ 1000 := by rw [← r2.length, List.length_map]; exact hl
  refine PySem.k22_merge (knd := mixKind X.prog X.w) hne n2 d1 d2 (fun _ => by simpa using nd2) (fun h' dd dd2 sb => ?_) (by rw [sizeLine_eq]; simp; omega)
  rw [merged_nil_of_nodup _ nd2] at dd
  have he' : ∃ q, h'.get? s.heap.objs.size = some q := let ⟨q, _, _, hq, _⟩ := dd; ⟨q, hq⟩
  have I2 : Inv X pins σ (upd H1 s.heap.objs.size (.dK (inrs kvs))) { s1 with heap := h', toks := s1.toks } := d_write I1 (by rw [hD]; exact True.intro) sb he' (dk_new (by rw [List.length_map, sizeLine_eq]; omega) n1 r2 dd)
  refine keysIn dd ew (by rw [sizeLine_eq]; omega) ⟨I2.kIn, ?_⟩
  exact run_mkKw M F (hr.mono hk) I2 rw1 (by rw [List.length_map, ← rw1.length, List.length_map]) (by rw [zip_self]; exact q)
/-- C() -/
theorem pe_kw0 (M : Mk X.K C f) (F : FnKw X.prog X.w X.K X.mg X.base k f sp) (hr : Room n X.A) (hm : X.mg x = some (.ref C)) (hk : k + 1 ≤ n := by decide) (hg : Gl X x := by rfl) (hdb : (x == ("__debug__" : Str)) = false := by decide) :
    PE X (.Call (.Name x p) [] [] pos) (fun σ H Q => ∀ x dx, H x = none → H dx = none → dx ≠ x → sp (.ref x) [] (upd (upd H dx (.own x)) x (.ins C dx [])) (fun v H2 => v = .non ∧ Q (.ref x) H2)) := by
  refine ⟨fun pins s σ H Q I h => ?_⟩
  refine wpAny_Call_Name_kw (ld_glob I hg hm ?_ hdb)
  exact PySem.W.callWith_K0 I.kIn M.kp (run_mkKw (ks := []) (ws := []) (zs := []) M F (hr.mono hk) I .nil rfl h)
end
end K22

set_option Elab.async false
set_option linter.all false
set_option maxRecDepth 100000
set_option maxHeartbeats 4000000
/-! R9: {**d, k: v}; enumerate(tuple). -/
namespace K22
open PySem PySem.Spec PyProof.Rows L2
section
variable {prog : Program} {w : World} {A : Around} {E : Value → Shared → Prop} {s : Shared}
theorem dd_raw {v1 k v2 : Sem Value} {Q : Value → Shared → Prop}
    (h : wpAny (model prog w) A v1 (fun m s₁ => wpAny (model prog w) A (mergeMapping s.heap.objs.size m false) (fun _ s₂ => wpAny (model prog w) A (subDict [(k, v2)]) (fun sub s₃ =>
      wpAny (model prog w) A (mergeMapping s.heap.objs.size (.ref sub) false) (fun _ s₄ => Q (.ref s.heap.objs.size) s₄) (fun _ _ => False) s₃) E s₂) (fun _ _ => False) s₁) E { s with heap := s.heap.push ({ cls := .type "dict", data := .dict #[] } : Obj) }) :
    wpAny (model prog w) A (dictDisplay [(none, v1), (some k, v2)]) Q E s := by
  unfold dictDisplay
  dsimp only
  refine wpAny_bind ?_
  rw [List.forIn_cons]
  dsimp only
  refine wpAny_bind (wpAny_bind ?_)
  first | refine wpAny_bind (PySem.W.KFB.if_so rfl (wpAny_pure ?_)) | (rw [if_pos (by rfl)]; refine wpAny_bind (wpAny_pure ?_)) | (rw [if_pos (by rfl)]; refine wpAny_pure ?_) | (rw [if_pos (by rfl)])
  refine wpAny_pure ?_
  dsimp only
  refine wpAny_bind (wpAny_alloc ?_)
  refine wpAny_bind (wpAny_holding (wpAny_mono h (fun m s₁ h₁ => ?_) fun _ _ z => z))
  refine wpAny_bind (wpAny_onRaise (wpAny_tryCatch (wpAny_onRaise (wpAny_holding ?_))))
  refine wpAny_mono h₁ (fun u s₂ h₂ => ?_) fun _ _ z => z.elim
  first | refine wpAny_pure ?_ | skip
  dsimp only
  rw [List.forIn_cons]
  dsimp only
  rw [if_neg (by simp)]
  refine wpAny_bind (wpAny_pure ?_)
  dsimp only
  rw [List.forIn_nil]
  refine wpAny_pure ?_
  dsimp only
  rw [if_neg (by simp)]
  refine wpAny_bind (wpAny_bind (wpAny_holding (wpAny_mono h₂ (fun sub s₃ h₃ => ?_) fun _ _ z => z)))
  refine wpAny_bind (wpAny_onRaise (wpAny_holding ?_))
  refine wpAny_mono h₃ (fun u s₄ h₄ => ?_) fun _ _ z => z.elim
  exact wpAny_pure (wpAny_pure h₄)
end
def tDD (td tk tv : TE) : TE := fun σ H Q => ∀ D, H D = none → td σ (upd H D (.dK [])) fun x H1 => ∃ (o : Addr) (kvs : List (Key × V)), x = .ref o ∧ D ≠ o ∧ H1 D = some (.dK []) ∧ H1 o = some (.dK kvs) ∧ (kvs.map (·.1)).Nodup ∧ kvs.length ≤ 1000 ∧
  ∀ S, upd H1 D (.dK kvs) S = none → tk σ (upd (upd H1 D (.dK kvs)) S (.dK [])) fun y H2 => tv σ H2 fun z H3 => ∃ key, y = kV key ∧ H3 D = some (.dK kvs) ∧ H3 S = some (.dK []) ∧ D ≠ S ∧ Q (.ref D) (upd (upd H3 S (.dK [(key, z)])) D (.dK (putK kvs key z)))
/-- a pair's readings, one behind the other -/
theorem te_mono2 {tk tv : TE} {σ : L2.St} {H : Hp} {R : V → V → Hp → Prop} (h : tk σ H fun y H2 => tv σ H2 fun z H3 => R y z H3) {S : List (V × V) → Hp → Prop} (i : ∀ y z H3, R y z H3 → S [(y, z)] H3) (m1 : ∀ H (Q Q' : VK), (∀ v H, Q v H → Q' v H) → tv σ H Q → tv σ H Q') (m2 : ∀ H (Q Q' : VK), (∀ v H, Q v H → Q' v H) → tk σ H Q → tk σ H Q') : tPairs [(tk, tv)] σ H S :=
  m2 _ _ _ (fun y H2 h2 => m1 _ _ _ (fun z H3 h3 => i y z H3 h3) h2) h
theorem pe_dd {X : Cx} {d k v : Expr} {td tk tv : TE} {pos : Pos} (hd : PE X d td) (hk : PE X k tk) (hv : PE X v tv) (mk : ∀ σ H (Q Q' : VK), (∀ v H, Q v H → Q' v H) → tk σ H Q → tk σ H Q') (mv : ∀ σ H (Q Q' : VK), (∀ v H, Q v H → Q' v H) → tv σ H Q → tv σ H Q')
    (hz : (evalEachOpt [none, some k] X.env).zip ((evalEach [d, v] X.env).map fun v => do let x ← v; standAt pos; pure x) = [(none, do let x ← eval d X.env; standAt pos; pure x), (some (eval k X.env), do let x ← eval v X.env; standAt pos; pure x)] := by rfl) :
    PE X (.Dict [none, some k] [d, v] pos) (tDD td tk tv) := by
  refine ⟨fun pins s σ H Q I h => ?_⟩
  rw [arm_eval_Dict, hz]
  refine wpAny_bind (wpAny_standAt (dd_raw ?_))
  have hn := I.hok.fresh (Nat.le_refl s.heap.objs.size)
  have I0 : Inv X pins σ (upd H s.heap.objs.size (.dK [])) { s with heap := s.heap.push ({ cls := .type "dict", data := .dict #[] } : Obj) } := I.laid (t' := s.toks) (fun b o e => Heap.get?_push_of_some _ e) (Nat.le_refl _) (dk_empty _ I.big)
  refine wpAny_bind (thn (hd.run pins _ σ _ _ I0 (h _ hn)) fun u s1 ⟨x, H1, I1, rv, o, kvs, ev, hne, hD, ho, nd, hl, q⟩ => wpAny_bind (wpAny_standAt (wpAny_pure ?_)))
  subst ev
  cases rv
  generalize hDD : s.heap.objs.size = D at *
  obtain ⟨z1, n1, vs1, r1, d1⟩ := dk_of I1.hok hD
  obtain ⟨z2, n2, vs2, r2, d2⟩ := dk_of I1.hok ho
  cases r1
  have nd2 : (vs2.map (·.1)).Nodup := by
    obtain ⟨_, _, _, _, _, _, _, _, nn⟩ := d2
    exact nn
  have hl2 : vs2.length ≤ 1000 := by rw [← r2.length]; exact hl
  refine PySem.k22_merge (knd := mixKind X.prog X.w) hne n2 d1 d2 (fun z => by cases z) (fun h' dd dd2 sb => ?_) (by rw [sizeLine_eq]; simp; omega)
  rw [merged_nil_of_nodup _ nd2] at dd
  have he' : ∃ q, h'.get? D = some q := let ⟨q, _, _, hq, _⟩ := dd; ⟨q, hq⟩
  have I2 : Inv X pins σ (upd H1 D (.dK kvs)) { s1 with heap := h', toks := s1.toks } := d_write I1 (by rw [hD]; exact True.intro) sb he' (dk_new (by rw [sizeLine_eq]; omega) n1 r2 dd)
  -- the one pair
  have hn2 := I2.hok.fresh (Nat.le_refl h'.objs.size)
  have I3 : Inv X pins σ (upd (upd H1 D (.dK kvs)) h'.objs.size (.dK [])) { s1 with heap := h'.push ({ cls := .type "dict", data := .dict #[] } : Obj) } := I2.laid (t' := s1.toks) (fun b o e => Heap.get?_push_of_some _ e) (Nat.le_refl _) (dk_empty _ I2.big)
  have pp : PPs X pos [some k] [v] [(tk, tv)] := pps_cons hk hv pps_nil
  have run := pp.run pins _ σ _ (fun ps H3 => ∃ y z key, ps = [(y, z)] ∧ y = kV key ∧ H3 D = some (.dK kvs) ∧ H3 h'.objs.size = some (.dK []) ∧ D ≠ h'.objs.size ∧ Q (.ref D) (upd (upd H3 h'.objs.size (.dK [(key, z)])) D (.dK (putK kvs key z)))) I3 (by
    have hS : upd H1 D (.dK kvs) h'.objs.size = none := hn2
    exact te_mono2 (q _ hS) (fun y z H3 ⟨key, e1, e2, e3, e4, e5⟩ => ⟨y, z, key, rfl, e1, e2, e3, e4, e5⟩) (mv σ) (mk σ))
  refine wpAny_subDict (knd := mixKind X.prog X.w) (by show 1 ≤ 15; omega) (wpAny_mono run (fun vs s2 hs2 => ?_) fun _ _ z => z)
  obtain ⟨ps, H3, I4, rel, y, z, key, eps, ey, hD3, hS3, hneS, q3⟩ := hs2
  subst eps ey
  obtain ⟨rs, c, rk⟩ := carries_of (P := X.prog) (w := X.w) (kvs := [(key, z)]) rel
  obtain ⟨z4, n4, vs4, r4, d4⟩ := dk_of I4.hok hS3
  cases r4
  refine ⟨rs, c, d4, fun h2 dd2 sb2 => ?_⟩
  have rs1 : (rs.map (·.1)).Nodup := by
    cases rk with
    | cons a b => cases b; simp
  rw [merged_nil_of_nodup _ rs1] at dd2
  have he2 : ∃ q, h2.get? h'.objs.size = some q := let ⟨q, _, _, hq, _⟩ := dd2; ⟨q, hq⟩
  have I5 : Inv X pins σ (upd H3 h'.objs.size (.dK [(key, z)])) { s2 with heap := h2, toks := s2.toks + vs.length } := d_write I4 (by rw [hS3]; exact True.intro) sb2 he2 (dk_new (by show 1 ≤ sizeLine; rw [sizeLine_eq]; omega) n4 rk dd2)
  have hD5 : upd H3 h'.objs.size (.dK [(key, z)]) D = some (.dK kvs) := by rw [upd_ne hneS]; exact hD3
  obtain ⟨z6, n6, vs6, r6, d6⟩ := dk_of I5.hok hD5
  have hl6 : vs6.length ≤ 1000 := by rw [← r6.length]; exact hl
  have hlr : rs.length = 1 := by rw [← rk.length]; rfl
  refine PySem.k22_merge (knd := mixKind X.prog X.w) hneS n4 d6 dd2 (fun z => by cases z) (fun h3 dd3 dd3' sb3 => ?_) (by rw [sizeLine_eq]; omega)
  have rel3 : KV (putK kvs key z) (merged vs6 rs) := merged_kv (b := [(key, z)]) r6 rk
  have he3 : ∃ q, h3.get? D = some q := let ⟨q, _, _, hq, _⟩ := dd3; ⟨q, hq⟩
  have hlp := length_putK kvs key z
  have I6 : Inv X pins σ (upd (upd H3 h'.objs.size (.dK [(key, z)])) D (.dK (putK kvs key z))) { s2 with heap := h3, toks := s2.toks + vs.length } := d_write (s := { s2 with heap := h2, toks := s2.toks + vs.length }) I5 (by rw [hD5]; exact True.intro) sb3 he3 (dk_new (by rw [sizeLine_eq]; omega) n6 rel3 dd3)
  exact ⟨.ref D, _, I6, rfl, q3⟩
end K22

set_option Elab.async false
set_option linter.all false
set_option maxRecDepth 100000
set_option maxHeartbeats 4000000
/-! R10: enumerate over a tuple. -/
namespace K22
open PySem PySem.Spec PyProof.Rows L2
open AutoSeq1 (wpAny_loadPart')
theorem meets_enumT (l : Addr) (items : Array Value) :
    Meets (Builtin.«enumerate.__new__» ⟨[.type "enumerate", .ref l], []⟩) (fun _ R s => s.heap.IsTuple l items ∧
      R (.ok (.ret (.ref (s.heap.push { cls := .type "tuple_iterator", data := .fields #[.ref l, .int 0 0] }).objs.size)))
        { s with heap := (s.heap.push { cls := .type "tuple_iterator", data := .fields #[.ref l, .int 0 0] }).push { cls := .type "enumerate", data := .fields #[.none, .bool false, .ref s.heap.objs.size, rawInt 0, .none, .none] } }) :=
  .of_wp fun prog w A R s h => by
    obtain ⟨hp, g, d, tk, os⟩ := s
    obtain ⟨hL, h⟩ := h
    have hsub := sub_enumerate
    wp_walk using wpAny_pyIter_tuple hL
    refine wpAny_stack_any fun st => wpAny_pure ?_
    split
    · rename_i c _ _ _ _ _
      cases (c == Value.type "enumerate")
      · wp_walk using wpAny_pyIter_tuple hL
        exact ⟨_, rfl, h⟩
      · wp_walk using wpAny_pyIter_tuple hL
        exact ⟨_, rfl, h⟩
    · wp_walk using wpAny_pyIter_tuple hL
      exact ⟨_, rfl, h⟩
section
variable {prog : Program} {w : World} {A : Around} {E : Value → Shared → Prop} {s : Shared}
theorem call_enumT {l : Addr} {items : Array Value} {Q : Value → Shared → Prop} (hL : s.heap.IsTuple l items)
    (h : ∀ h', IsEnum h' (s.heap.objs.size + 1) s.heap.objs.size 0 .none → h'.IsTupleIter s.heap.objs.size l 0 → (∀ b o, s.heap.get? b = some o → h'.get? b = some o) → Q (.ref (s.heap.objs.size + 1)) { s with heap := h' }) :
    wpAny (model prog w) A (call (.type "enumerate") [.ref l]) Q E s := by
  refine callType_new F.called_enumerate (by decide) (F.typeCall_enumerate_1 _) (F.newCall_enumerate_1 _) (fun obj => F.args_object_init_2 obj _) F.entry_enumerate_new (meets_enumT l items) ⟨hL, ?_⟩
  have hz : (s.heap.push { cls := .type "tuple_iterator", data := .fields #[.ref l, .int 0 0] }).objs.size = s.heap.objs.size + 1 := Heap.size_push ..
  show _ ∧ _
  rw [hz]
  have he : IsEnum ((s.heap.push { cls := .type "tuple_iterator", data := .fields #[.ref l, .int 0 0] }).push
      { cls := .type "enumerate", data := .fields #[.none, .bool false, .ref s.heap.objs.size, rawInt 0, .none, .none] }) (s.heap.objs.size + 1) s.heap.objs.size 0 .none := by
    have := Heap.get?_push_size (s.heap.push { cls := .type "tuple_iterator", data := .fields #[.ref l, .int 0 0] })
      (o := { cls := .type "enumerate", data := .fields #[.none, .bool false, .ref s.heap.objs.size, rawInt 0, .none, .none] }) rfl
    rw [hz] at this; exact this
  refine ⟨⟨_, he, rfl⟩, h _ he ⟨_, Heap.get?_push_of_some _ (Heap.get?_push_size _ rfl), rfl, rfl⟩ fun b o x => Heap.get?_push_of_some _ (Heap.get?_push_of_some _ x)⟩
end
/-- the tuple at a, its items in new pairs with their places -/
def Itn2 (K : PySem.W.Frag) (a : Addr) : It :=
  ⟨fun i H => ∃ (xs : List V) (x : V), SqT K H a xs ∧ xs[i]? = some x, fun i H v H' => ∃ T x, v = .ref T ∧ H T = none ∧ H' = upd H T (.tup [.int (i : Nat), x]) ∧ ∀ xs, SqT K H a xs → xs[i]? = some x, fun i H => ∃ xs : List V, SqT K H a xs ∧ xs.length = i⟩
theorem turn_enumT {P : Program} {w : World} {K : PySem.W.Frag} {elts : List Expr} {kk : Nat} {tpos : Pos} (a e it : Addr) (hae : a ≠ e) (hai : a ≠ it) :
    Turn P w K (.Tuple elts kk tpos) (Itn2 K a) [e, it] e (fun i h => (∃ old, IsEnum h e it ((i : Nat) : Int) old) ∧ h.IsTupleIter it a i ∧ e ≠ it) where
  mem := by simp
  obj := fun i h st b hb => by
    obtain ⟨⟨old, he⟩, ⟨o, ho, hc, hd⟩, _⟩ := st
    rcases (by simpa using hb : b = e ∨ b = it) with z | z
    · rw [z]; exact ⟨_, he, fun v q => nomatch q⟩
    · rw [z]; exact ⟨o, ho, fun v q => by rw [hd] at q; cases q⟩
  keep := fun i h h' st k => let ⟨⟨old, he⟩, hi, hne⟩ := st; ⟨⟨old, k e (by simp) _ he⟩, hi.at fun o q => k it (by simp) o q, hne⟩
  item := by
    intro X hP hw hK hc i pins s σ H E I hf st hg
    subst hP hw hK
    obtain ⟨⟨old, he⟩, hit, hne⟩ := st
    obtain ⟨xs, x, hq, hx⟩ := hg
    obtain ⟨its, rv, p, hz⟩ := I.tuple hq
    obtain ⟨u, hu, ru⟩ := rv.get hx
    have hel : e < s.heap.objs.size := Heap.lt_size he
    have hil : it < s.heap.objs.size := by obtain ⟨_, q, _⟩ := hit; exact Heap.lt_size q
    have hlt : i < its.toArray.size := by simpa using (List.getElem?_eq_some_iff.mp hu).1
    have hh : X.A.in1.handled = none := by have := I.ok.hd hc; simpa using this
    refine wpAny_pyNext_enum_itemD (Draws.tuple hh it a hai its.toArray) he ⟨hit, p⟩ hlt hne (by simp [hne, Ne.symm hae]) fun y h' tk hy ho st' hT hsz hk => ?_
    obtain rfl : y = u := by
      have hy : its.toArray[i]? = some y := hy
      have hu' : its.toArray[i]? = some u := by simpa using hu
      rw [hu'] at hy
      exact (Option.some.inj hy).symm
    refine ⟨_, rfl, wpAny_letOwnedTupleGo_enum (s := { s with heap := h', toks := tk + 1 }) ho fun h'' he' sb => ?_⟩
    have hT2 : h''.get? s.heap.objs.size = some { cls := .type "tuple", data := .seq #[.int i tk, y] } := (sb.2 _ (Nat.ne_of_gt hel)).trans hT
    have new : ObjOk X.prog X.w (upd H s.heap.objs.size (.tup [.int (i : Nat), x])) h'' s.heap.objs.size (.tup [.int (i : Nat), x]) :=
      ⟨by show 2 ≤ sizeLine; decide, [.int i tk, y], .cons ⟨_, rfl⟩ (.cons ru .nil), ⟨_, hT2, rfl, _, rfl⟩⟩
    have I1 : Inv X pins σ (upd H s.heap.objs.size (.tup [.int (i : Nat), x])) { s with heap := h'', toks := tk + 1 } :=
      I.turnedNew (ch := [e, it]) (fun b ob hb q => (sb.2 b (fun z => hb (by simp [z]))).trans (hk b ob (fun z => hb (by simp [z])) (fun z => hb (by simp [z])) q)) hf (Nat.le_refl _) new
    refine ⟨.ref s.heap.objs.size, _, I1, rfl, ⟨_, x, rfl, I.hok.fresh (Nat.le_refl _), rfl, fun ys hy => by rw [I.tuple_inj hy hq]; exact hx⟩, ⟨⟨y, ?_⟩, st'.1.at fun o q => (sb.2 it (Ne.symm hne)).trans q, hne⟩, fun b hb => ?_⟩
    · have e1 : ((i + 1 : Nat) : Int) = (i : Int) + 1 := by omega
      rw [e1]; exact he'
    · have hb' : b < s.heap.objs.size := by
        rcases (by simpa using hb : b = e ∨ b = it) with z | z
        · rw [z]; exact hel
        · rw [z]; exact hil
      rw [upd_ne (Nat.ne_of_lt hb')]
      exact (hf b hb).1
  done := by
    intro X hP hw hK hc i pins s σ H E I hf st hg
    subst hP hw hK
    obtain ⟨⟨old, he⟩, hit, hne⟩ := st
    obtain ⟨xs, hq, hx⟩ := hg
    obtain ⟨its, rv, p, hz⟩ := I.tuple hq
    obtain ⟨f0, f1, f2, f3, f4, f5⟩ := hf it (by simp)
    have hl : its.toArray.size = i := by
      have := rv.length
      simp
      omega
    have hh : X.A.in1.handled = none := by have := I.ok.hd hc; simpa using this
    exact wpAny_pyNext_enum_endD (Draws.tuple hh it a hai its.toArray) he (by rw [hl]; exact ⟨hit, p⟩) fun h' eb => ⟨rfl, I.turned (t' := s.toks) (fun b o hb q => eb b o hb q) f0 f1 f3 f4 f5⟩
  self := fun A i s Q E st h => let ⟨⟨_, he⟩, _⟩ := st; wpAny_pyIter_enum he h
def iEnumT (K : PySem.W.Frag) (ta : TA) : TI := fun σ H R => ta σ H fun vs H1 => ∃ a xs, vs = [.ref a] ∧ SqT K H1 a xs ∧ R (Itn2 K a) H1
theorem pi_enumT {X : Cx} {e : Expr} {ta : TA} {p pos tpos : Pos} {elts : List Expr} {kk : Nat} (hg : Gl X "enumerate") (hm : X.mg "enumerate" = none) (ha : PA X [e] ta) (hs : starEach [e] X.env = [(false, eval e X.env)] := by rfl) :
    PI X (.Tuple elts kk tpos) (.Call (.Name "enumerate" p) [e] [] pos) (iEnumT X.K ta) := by
  refine ⟨fun pins s σ H R I h => ?_⟩
  refine Call_ (ld_blt I hg hm boot_enumerate (PyProof.Rows.callWith_type1 (thn (ha.run pos pins s σ H _ I h) fun us s1 ⟨vs, H1, I1, r1, q1⟩ => ?_) hs rfl))
  obtain ⟨a, xs, ex, hq, q⟩ := q1
  subst ex
  cases r1 with
  | cons r rr =>
    cases rr
    cases r
    obtain ⟨its, rv, p', hz⟩ := I1.tuple hq
    have hal : a < s1.heap.objs.size := by obtain ⟨_, z, _⟩ := id p'; exact Heap.lt_size z
    refine call_enumT p' fun h' he hit hk => wpAny_pyIter_enum he ?_
    have I2 : Inv X pins σ H1 { s1 with heap := h' } := I1.kept (t' := s1.toks) hk
    refine ⟨s1.heap.objs.size + 1, [s1.heap.objs.size + 1, s1.heap.objs.size], _, _, H1, rfl, I2, turn_enumT a (s1.heap.objs.size + 1) s1.heap.objs.size (Nat.ne_of_lt (Nat.lt_succ_of_lt hal)) (Nat.ne_of_lt hal), ⟨⟨.none, he⟩, hit, Nat.succ_ne_self _⟩, fun b hb => ?_, q⟩
    have hle : s1.heap.objs.size ≤ b := by
      rcases (by simpa using hb : b = s1.heap.objs.size + 1 ∨ b = s1.heap.objs.size) with z | z
      · rw [z]; exact Nat.le_succ _
      · rw [z]; exact Nat.le_refl _
    exact I1.fpOk hle (I1.hok.fresh hle)
end K22

set_option Elab.async false
set_option linter.all false
set_option maxRecDepth 100000
set_option maxHeartbeats 4000000
/-! E2: the calculus: texts in lists, sets, dicts. -/
namespace K22
open PySem PySem.Spec PyProof.Rows L2
def txQ (xs : List Str) : List VQ := xs.map fun z => is (.str z)
instance {xs : List Str} : StabL (txQ xs) := by unfold txQ; exact inferInstance
theorem txQ_all {xs : List Str} {vs : List V} {H : Hp} (h : All2 (txQ xs) vs H) : vs = xs.map V.str := all2_is (xs := xs.map V.str) (by rw [List.map_map]; exact h)
theorem all_txQ {xs : List Str} {H : Hp} : All2 (txQ xs) (xs.map V.str) H := by
  induction xs with
  | nil => exact .nil
  | cons x xs ih => exact .cons rfl ih
section
variable {K : PySem.W.Frag} {P : Program} {w : World} {H : Hp} {σ : L2.St} {te : TE} {xs : List Str}
theorem cp_sorted (hl : xs.length < 64) : CP (rSortedS K) [lstQ (txQ xs)] H (lstQ (txQ (sortT xs))) := fun H1 e vs hv Q k => by
  cases hv with
  | cons h1 h =>
  cases h
  obtain ⟨a, vs, rfl, ha, hs⟩ := h1
  rw [txQ_all hs] at ha
  refine ⟨a, xs, rfl, SqL.of ha, hl, fun ys p hp hs hn => ?_⟩
  rw [sortT_eq hs hp]
  exact k _ _ (same_new hn) ⟨p, _, rfl, upd_same, all_txQ⟩
def setQ (P : Program) (w : World) (xs : List Str) : VQ := fun x H => ∃ a, x = .ref a ∧ H a = some (TxO P w a (mets xs))
theorem cp_set (hl : xs.length ≤ 1000) : CP (rSetT K P w) [lstQ (txQ xs)] H (setQ P w xs) := fun H1 e vs hv Q k => by
  cases hv with
  | cons h1 h =>
  cases h
  obtain ⟨a, vs, rfl, ha, hs⟩ := h1
  rw [txQ_all hs] at ha
  exact ⟨a, xs, rfl, SqL.of ha, hl, fun b hb => k _ _ (same_new hb) ⟨b, rfl, upd_same⟩⟩
theorem cp_sortedX (hl : (mets xs).length < 64) : CP (rSortedX P w) [setQ P w xs] H (lstQ (txQ (uniqT xs))) := fun H1 e vs hv Q k => by
  cases hv with
  | cons h1 h =>
  cases h
  obtain ⟨a, rfl, ha⟩ := h1
  refine ⟨a, _, rfl, ha, hl, fun ys p hm hlen hs hn => ?_⟩
  rw [uniqT_eq hm hlen hs]
  exact k _ _ (same_new hn) ⟨p, _, rfl, upd_same, all_txQ⟩
instance {xs : List Str} : Mono (setQ P w xs) := ⟨fun e ⟨a, h1, h2⟩ => ⟨a, h1, e _ _ h2⟩⟩
theorem cp_strS {z : Str} : CP (fun xs H Q => ∃ a, xs = [.str a] ∧ Q (.str a) H) [is (.str z)] H (is (.str z)) := fun H1 e vs hv Q k => by
  have ev := all2_is (xs := [.str z]) hv
  subst ev
  exact ⟨z, rfl, k _ H1 (Same.refl H1) rfl⟩
def rTupOf (K : PySem.W.Frag) : List V → Hp → VK → Prop := fun xs H Q => ∃ p ys, xs = [.ref p] ∧ ((SqL K H p ys ∧ ∀ l, H l = none → Q (.ref l) (upd H l (.tup ys))) ∨ (SqT K H p ys ∧ Q (.ref p) H))
theorem cp_tuple {Φs : List VQ} [m : MonoL Φs] : CP (rTupOf K) [lstQ Φs] H (tupQ Φs) := fun H1 e vs hv Q k => by
  cases hv with
  | cons h1 h =>
  cases h
  obtain ⟨a, vs, rfl, ha, hs⟩ := h1
  exact ⟨a, vs, rfl, .inl ⟨SqL.of ha, fun l hl => k _ _ (same_new hl) ⟨l, vs, rfl, upd_same, m.mono (same_new hl) hs⟩⟩⟩
theorem cp_lenL {Φs : List VQ} : CP (rLenQ K) [lstQ Φs] H (is (.int Φs.length)) := fun H1 e vs hv Q k => by
  cases hv with
  | cons h1 h =>
  cases h
  obtain ⟨a, vs, rfl, ha, hs⟩ := h1
  refine ⟨a, vs, rfl, .inl (SqL.of ha), k _ H1 (Same.refl H1) ?_⟩
  rw [hs.length]
  rfl
theorem cp_lenU {Φs : List VQ} : CP (rLenQ K) [tupQ Φs] H (is (.int Φs.length)) := fun H1 e vs hv Q k => by
  cases hv with
  | cons h1 h =>
  cases h
  obtain ⟨a, vs, rfl, ha, hs⟩ := h1
  refine ⟨a, vs, rfl, .inr (SqT.of ha), k _ H1 (Same.refl H1) ?_⟩
  rw [hs.length]
  rfl
theorem ei_tup {a : Addr} {vs : List V} (h : EvP te σ H (is (.ref a))) (ha : H a = some (.tup vs)) : EiT K (iTup K te) σ H vs := fun H1 e R k => h H1 e _ fun v H2 e2 hv => ⟨a, hv, ⟨vs, SqT.of (e2 _ _ (e _ _ ha))⟩, k a H2 e2 (SqT.of (e2 _ _ (e _ _ ha)))⟩
theorem ei_lst {a : Addr} {vs : List V} (h : EvP te σ H (is (.ref a))) (ha : H a = some (.lst vs)) : EiL K (iList K te) σ H vs := fun H1 e R k => h H1 e _ fun v H2 e2 hv => ⟨a, hv, ⟨vs, SqL.of (e2 _ _ (e _ _ ha))⟩, k a H2 e2 (SqL.of (e2 _ _ (e _ _ ha)))⟩
/-- [str(key) for key in d] -/
theorem ev_keysStr {i j : Nat} {d : Addr} {kvs : List (Str × V)} (h0 : (σ.set j none)[i]? = some (some (.ref d))) (h1 : σ[i]? = some (some (.ref d))) (hj : j < σ.length) (hd : H d = some (.dK (inrs kvs))) (hl : kvs.length ≤ 1000) :
    EvP (tLockE (tLc (iKeys (tVar i)) (gName j) tYes (tCB (fun xs H Q => ∃ a, xs = [.str a] ∧ Q (.str a) H) (tCons (tVar j) tNil)) [j])) σ H (lstQ (txQ (kvs.map (·.1)))) := by
  intro H1 e Q k
  have hd1 := e _ _ hd
  refine ⟨d, _, hd1, trivial, fun od => ⟨_, h1, d, od, rfl, .inl ⟨_, upd_same, fun D hD => ?_⟩⟩⟩
  have nD : D ≠ d := by rintro rfl; rw [upd_same] at hD; cases hD
  have hD1 : H1 D = none := by rw [upd_ne nD] at hD; exact hD
  refine lc_it (walk_keys (d := d) (o := od) (kvs := inrs kvs)) (fun n H' => (∀ b o, b ≠ d → H1 b = some o → H' b = some o) ∧ H' d = some (.frz od (.dK (inrs kvs))) ∧ H' D = some (.lst (((kvs.map (·.1)).take n).map V.str))) ⟨fun b o hb hb1 => ?_, ?_, upd_same⟩ (fun i H' _ p => p.2.1) ?_ ?_
  · rw [upd_ne (ne_of_none hb1 hD1), upd_ne hb]
    exact hb1
  · rw [upd_ne (Ne.symm nD)]
    exact upd_same
  · rintro n x H2 H3 hn ⟨p1, p2, p3⟩ ⟨rfl, key, v, hk, rfl⟩
    have hlen : (inrs kvs).length = kvs.length := List.length_map _
    obtain ⟨q, hq⟩ : ∃ q, kvs[n]? = some q := ⟨kvs[n]'(by omega), List.getElem?_eq_getElem (by omega)⟩
    have hk2 : (inrs kvs)[n]? = some (Sum.inr q.1, q.2) := by rw [List.getElem?_map, hq]; rfl
    rw [hk2] at hk
    cases hk
    refine ⟨by simp [wipe, List.set_set], ?_⟩
    refine ⟨_, set_get (by simp [wipe, hj]), q.1, rfl, _, p3, ?_, fun b o hb hb1 => ?_, ?_, ?_⟩
    · rw [List.length_map, List.length_take, List.length_map]
      exact small1000 (by omega)
    · rw [upd_ne (ne_of_none hb1 hD1)]
      exact p1 b o hb hb1
    · rw [upd_ne (Ne.symm nD)]
      exact p2
    · rw [upd_same, List.take_succ, List.getElem?_map, hq, List.map_append]
      rfl
  · rintro H2 ⟨p1, p2, p3⟩
    refine ⟨p2, k _ _ (fun b o hb => ?_) ⟨D, _, rfl, by rw [upd_ne nD]; exact p3, ?_⟩⟩
    · by_cases hbd : b = d
      · subst hbd
        rw [upd_same, ← hb]
        exact hd1.symm
      · rw [upd_ne hbd]
        exact p1 b o hbd hb
    · have : (inrs kvs).length = (kvs.map (·.1)).length := by rw [List.length_map, List.length_map]
      rw [this, List.take_length]
      exact all_txQ
end
end K22

set_option Elab.async false
set_option linter.all false
set_option maxRecDepth 100000
set_option maxHeartbeats 4000000
/-! C7: the checks of a table's trips. -/
namespace K22
open PySem PySem.Spec PyProof.Rows L2
theorem walk_enumT {K : PySem.W.Frag} {a : Addr} {xs : List V} : Walk (Itn2 K a) xs.length (fun H => SqT K H a xs) (fun i H v H' => ∃ T x, v = .ref T ∧ H T = none ∧ H' = upd H T (.tup [.int (i : Nat), x]) ∧ xs[i]? = some x) :=
  ⟨fun i H hi h => ⟨xs, xs[i], h, List.getElem?_eq_getElem hi⟩, fun H h => ⟨xs, h, rfl⟩, fun i H x H' hi h ⟨T, y, h1, h2, h3, h4⟩ => ⟨T, y, h1, h2, h3, h4 xs h⟩⟩
theorem All2.get {Φs : List VQ} {vs : List V} {H : Hp} (h : All2 Φs vs H) : ∀ {i : Nat} {v : V}, vs[i]? = some v → ∃ Φ, Φs[i]? = some Φ ∧ Φ v H := by
  induction h with
  | nil => intro i v hv; simp at hv
  | cons a r ih =>
    intro i v hv
    cases i with
    | zero => simp at hv; subst hv; exact ⟨_, rfl, a⟩
    | succ i => exact ih (by simpa using hv)
theorem All2.get' {Φs : List VQ} {vs : List V} {H : Hp} (h : All2 Φs vs H) : ∀ {i : Nat} {Φ : VQ}, Φs[i]? = some Φ → ∃ v, vs[i]? = some v ∧ Φ v H := by
  induction h with
  | nil => intro i v hv; simp at hv
  | cons a r ih =>
    intro i v hv
    cases i with
    | zero => simp at hv; subst hv; exact ⟨_, rfl, a⟩
    | succ i => exact ih (by simpa using hv)
def tripsQ (K : PySem.W.Frag) (ts : List Tr) : List VQ := ts.map (tripQ K)
instance {K : PySem.W.Frag} {ts : List Tr} : StabL (tripsQ K ts) := by unfold tripsQ; exact inferInstance
theorem trips_get {K : PySem.W.Frag} {ts : List Tr} {vs : List V} {H : Hp} (h : All2 (tripsQ K ts) vs H) {i : Nat} {v : V} (hv : vs[i]? = some v) : ∃ t, ts[i]? = some t ∧ tripQ K t v H := by
  obtain ⟨Φ, h1, h2⟩ := h.get hv
  unfold tripsQ at h1
  rw [List.getElem?_map] at h1
  cases ht : ts[i]? with
  | none => rw [ht] at h1; cases h1
  | some t =>
    rw [ht] at h1
    cases h1
    exact ⟨t, rfl, h2⟩
theorem trips_len {K : PySem.W.Frag} {ts : List Tr} {vs : List V} {H : Hp} (h : All2 (tripsQ K ts) vs H) : vs.length = ts.length := by rw [← h.length]; exact List.length_map _
section
variable {P : Program} {w : World} {K : PySem.W.Frag} {mg : Str → Option Value} {base : Heap}
def spNeedAll (K : PySem.W.Frag) : Sp := fun vs H Q _ => ∃ (a : Addr) (xs : List V) (ts : List Tr), vs = [.ref a] ∧ H a = some (.tup xs) ∧ All2 (tripsQ K ts) xs H ∧ ∀ H', Same H H' → Q .non H'
theorem sc_need_all_trips : FnScope ["values", "at", "value"] ["values"] (defScope s_need_all_trips) := ⟨rfl, rfl, rfl, by decide +kernel, rfl, by decide +kernel, by decide +kernel⟩
theorem ok_need_all (G : Fc K mg) : Fn P w K mg base 1 (f_need_all_trips K) (spNeedAll K) := by
  refine fnA G.d_need_all_trips sc_need_all_trips (fun _ _ _ _ _ _ us hl => match us, hl with | [_], _ => rfl) (fun vs H Q h => ?_) (fun vs H Q E h => h) (fun cdv A outer s H vs Q hr h => ?_)
  · obtain ⟨a, xs, ts, rfl, _⟩ := h
    rfl
  · obtain ⟨a, xs, ts, rfl, ha, hx, k⟩ := h
    have nd := sc_need_all_trips.nd
    refine ⟨_, pss_one (ps_for PassesOwn.never rfl (pi_enumT (by rfl) G.b_enumerate (pa_cons (pv 0) pa_nil)) (pg_tup rfl (pgs_cons (pg_name (i := 1) nd rfl (Or.inl rfl)) (pgs_cons (pg_name (i := 2) nd rfl (Or.inl rfl)) pgs_nil)))
      (pss_one (ps_if (pt_not (pt_val (pe_callB call_isi (by rfl) G.b_isinstance (by decide +kernel) (pa_cons (pv 2) (pa_cons (pe_glob (v := .ref (cTrip K)) (by rfl) G.g_Trip rfl) pa_nil))))) pss_never pss_nil))), ?_⟩
    refine ⟨_, rfl, a, xs, rfl, SqT.of ha, ?_⟩
    refine for_it (walk_enumT (K := K) (a := a) (xs := xs)) (fun n σ H' => Same H H' ∧ σ.length = 3) ⟨Same.refl H, rfl⟩ (fun i σ H' _ p => SqT.of (p.1 _ _ ha)) ?_ ?_
    · rintro i v σ H1 H2 hi ⟨e1, hl⟩ ⟨T, x, rfl, hT, rfl, hx2⟩
      obtain ⟨t, ht, htr⟩ := trips_get hx hx2
      refine ⟨T, _, rfl, SqT.of upd_same, rfl, _, _, rfl, _, _, rfl, rfl, ?_⟩
      have hq : tripQ K t x (upd H1 T (.tup [.int (i : Nat), x])) := Mono.mono (e1.trans (same_new hT)) htr
      refine s_skip1 (et_not (b := true) (et_B (ev_cb (ea_cons (ev_var (Φ := tripQ K t) (v := x) ?_ hq) (ea_cons ev_k ea_nil)) (cp_isTrip G)))) fun H3 e3 => ?_
      · simp [hl]
      · exact ⟨(e1.trans (same_new hT)).trans e3, by simp [hl]⟩
    · rintro σ H1 ⟨e1, _⟩
      exact k H1 e1
/-! ### places_of -/
theorem ev_lc2 {σ : L2.St} {H : Hp} {wi wi1 : TI} {i j : Nat} {te : TE} {vs vs1 : List Nat} {xs : List V} {f : Nat → List Str} (hi : EiT K wi σ H xs) (hl : ((List.range xs.length).flatMap f).length ≤ 1000)
    (hw : ∀ x, wipe ((wipe σ vs).set i (some x)) vs = wipe σ vs) (hw1 : ∀ x y, wipe ((wipe ((wipe σ vs).set i (some x)) vs1).set j (some y)) vs1 = wipe ((wipe σ vs).set i (some x)) vs1)
    (hin : ∀ n x, xs[n]? = some x → EiT K wi1 ((wipe σ vs).set i (some x)) H ((f n).map V.str))
    (he : ∀ n x, xs[n]? = some x → ∀ z ∈ f n, EvP te ((wipe ((wipe σ vs).set i (some x)) vs1).set j (some (.str z))) H (is (.str z))) :
    EvP (tLc2 wi (gName i) tYes wi1 (gName j) tYes te vs vs1) σ H (lstQ (txQ ((List.range xs.length).flatMap f))) := by
  intro H1 e Q k
  refine hi H1 e _ fun a H2 e2 hs D hD => ?_
  have e3 := e.trans e2
  refine ⟨fun i m H' => m = xs.length - i ∧ i ≤ xs.length ∧ Same H2 H' ∧ H' D = some (.lst (((List.range i).flatMap f).map V.str)), ⟨_, rfl, Nat.zero_le _, same_new hD, upd_same⟩, ?_⟩
  rintro n m H3 ⟨rfl, hn, s3, h3⟩
  by_cases hlt : n < xs.length
  · refine .inr ⟨⟨xs, xs[n], sqt_mono s3 hs, List.getElem?_eq_getElem hlt⟩, fun H' => Same H2 H' ∧ H' D = some (.lst (((List.range (n + 1)).flatMap f).map V.str)), fun H' p => ⟨xs.length - (n + 1), by omega, rfl, hlt, p⟩, fun x H4 y => ?_⟩
    obtain ⟨rfl, y⟩ := y
    have hx := y xs (sqt_mono s3 hs)
    have hm := List.mem_of_getElem? hx
    refine ⟨hw x, ?_⟩
    refine hin n x hx _ (e3.trans s3) _ fun b H5 e5 hs5 => ?_
    refine ⟨fun q m H' => m = (f n).length - q ∧ q ≤ (f n).length ∧ Same H2 H' ∧ Same H5 H5 ∧ SqT K H' b ((f n).map V.str) ∧ H' D = some (.lst (((List.range n).flatMap f ++ (f n).take q).map V.str)), ⟨_, rfl, Nat.zero_le _, s3.trans e5, Same.refl _, hs5, ?_⟩, ?_⟩
    · rw [List.take_zero, List.append_nil]
      exact e5 _ _ h3
    rintro q m H6 ⟨rfl, hq, s6, _, hb6, h6⟩
    have hfl : ((f n).map V.str).length = (f n).length := List.length_map _
    by_cases hq2 : q < (f n).length
    · refine .inr ⟨⟨_, .str (f n)[q], hb6, by rw [List.getElem?_map, List.getElem?_eq_getElem hq2]; rfl⟩, fun H' => Same H2 H' ∧ SqT K H' b ((f n).map V.str) ∧ H' D = some (.lst (((List.range n).flatMap f ++ (f n).take (q + 1)).map V.str)), fun H' p => ⟨(f n).length - (q + 1), by omega, rfl, hq2, p.1, Same.refl _, p.2.1, p.2.2⟩, fun y' H7 y7 => ?_⟩
      obtain ⟨rfl, y7⟩ := y7
      have hz := y7 _ hb6
      rw [List.getElem?_map, List.getElem?_eq_getElem hq2] at hz
      cases hz
      refine ⟨hw1 x _, ?_⟩
      refine he n x hx _ (List.getElem_mem hq2) _ (e3.trans s6) _ fun v H8 e8 hv => ?_
      cases hv
      have nb : D ≠ b ∨ True := .inr trivial
      refine ⟨_, e8 _ _ h6, ?_, same_mut (s6.trans e8) hD, ?_, ?_⟩
      · rw [List.length_map]
        have h1 : ((List.range n).flatMap f ++ (f n).take q).length ≤ ((List.range xs.length).flatMap f).length := by
          have e1 : (List.range xs.length).flatMap f = (List.range n).flatMap f ++ f n ++ ((List.range' (n + 1) (xs.length - (n + 1))).flatMap f) := by
            have : List.range xs.length = List.range n ++ [n] ++ List.range' (n + 1) (xs.length - (n + 1)) := by
              have h := List.range'_append_1 (s := 0) (m := n + 1) (n := xs.length - (n + 1))
              rw [Nat.zero_add] at h
              rw [← List.range_succ, List.range_eq_range', List.range_eq_range', h]
              congr 1
              omega
            rw [this, List.flatMap_append, List.flatMap_append]
            simp
          rw [e1, List.length_append, List.length_append, List.length_append, List.length_take]
          omega
        exact small1000 (by omega)
      · rcases sqt_mono e8 hb6 with (h | ⟨o, h⟩) | h
        · refine .inl (.inl ?_)
          rw [upd_ne (by rintro rfl; rw [e8 _ _ h6] at h; cases h)]
          exact h
        · refine .inl (.inr ⟨o, ?_⟩)
          rw [upd_ne (by rintro rfl; rw [e8 _ _ h6] at h; cases h)]
          exact h
        · exact .inr h
      · have et : (f n).take (q + 1) = (f n).take q ++ [(f n)[q]] := by rw [List.take_succ, List.getElem?_eq_getElem hq2]; rfl
        rw [upd_same, et, ← List.append_assoc, List.map_append (l₁ := (List.range n).flatMap f ++ (f n).take q)]
        rfl
    · have : q = (f n).length := by omega
      subst this
      refine .inl ⟨⟨_, hb6, by rw [List.length_map]; exact Nat.le_refl _⟩, s6, ?_⟩
      rw [h6, List.take_length, List.range_succ, List.flatMap_append]
      simp
  · have : n = xs.length := by omega
    subst this
    refine .inl ⟨⟨xs, sqt_mono s3 hs, Nat.le_refl _⟩, ?_⟩
    exact k _ _ (e2.trans s3) ⟨D, _, rfl, h3, all_txQ⟩
def spPlaces (K : PySem.W.Frag) : Sp := fun vs H Q _ => ∃ (a : Addr) (xs : List V) (ts : List Tr), vs = [.ref a] ∧ H a = some (.tup xs) ∧ All2 (tripsQ K ts) xs H ∧ ts.length ≤ 31 ∧ ∀ v H', Same H H' → lstQ (txQ (places ts)) v H' → Q v H'
instance : Inhabited Tr := ⟨⟨false, "", "", 0, 0, ""⟩⟩
theorem trips_at {ts : List Tr} {vs : List V} {H : Hp} (h : All2 (tripsQ K ts) vs H) {i : Nat} {v : V} (hv : vs[i]? = some v) : tripQ K (ts.getD i default) v H ∧ ts[i]? = some (ts.getD i default) := by
  obtain ⟨t, h1, h2⟩ := trips_get h hv
  rw [List.getD_eq_getElem?_getD, h1]
  exact ⟨h2, rfl⟩
theorem ends_len (ts : List Tr) : (ends ts).length = 2 * ts.length := by
  unfold ends
  induction ts with
  | nil => rfl
  | cons t ts ih =>
    rw [List.flatMap_cons, List.length_append, ih, List.length_cons]
    simp
    omega
theorem range_flat {α β : Type} (ts : List α) (d : α) (f : α → List β) : (List.range ts.length).flatMap (fun i => f (ts.getD i d)) = ts.flatMap f := by
  have := range_map1 ts d f
  rw [List.filter_eq_self.mpr fun _ _ => rfl] at this
  rw [List.flatMap_def, List.flatMap_def, this]
theorem sc_places_of : FnScope ["trips", "trip", "place"] ["trips"] (defScope s_places_of) := ⟨rfl, rfl, rfl, by decide +kernel, rfl, by decide +kernel, by decide +kernel⟩
theorem ok_places_of (G : Fc K mg) : Fn P w K mg base 1 (f_places_of K) (spPlaces K) := by
  refine fnA G.d_places_of sc_places_of (fun _ _ _ _ _ _ us hl => match us, hl with | [_], _ => rfl) (fun vs H Q h => ?_) (fun vs H Q E h => h) (fun cdv A outer s H vs Q hr h => ?_)
  · obtain ⟨a, xs, ts, rfl, _⟩ := h
    rfl
  · obtain ⟨a, xs, ts, rfl, ha, hx, hl, k⟩ := h
    have nd := sc_places_of.nd
    refine ⟨_, pss_one (ps_ret (pe_callB (cr_sortedX rfl) (by rfl) G.b_sorted (by decide +kernel) (pa_cons (pe_callTy (cr_setT rfl) (by rfl) G.b_set (by decide +kernel) (pa_cons
      (pe_lc2 (wi1 := iTup K (tTup (tCons (tFld K (tVar 1) "start") (tCons (tFld K (tVar 1) "goal") tNil)))) (own := [("trip", 1), ("place", 2)]) (vs1 := [2]) (g := gName 1) (g1 := gName 2) (by rfl) nd (pi_tup (pv 0)) (blkOk_by (own := [("trip", 1), ("place", 2)]) (N := ["trips", "trip", "place"]) (sc := defScope s_places_of) (by decide +kernel)) (by decide)
        (fun _ _ _ _ _ => pg_name (i := 1) nd rfl (Or.inl rfl)) (fun _ _ _ _ _ => pts_nil) (fun _ _ _ _ _ => pi_tup (pe_tup (pa_cons (pe_fld (pv 1) rfl) (pa_cons (pe_fld (pv 1) rfl) pa_nil)))) (fun _ _ _ _ _ => pg_name (i := 2) nd rfl (Or.inl rfl)) (fun _ _ _ _ _ => pts_nil)
        (fun _ _ _ _ _ => pe_callTy SkE.call_str_str (by rfl) G.b_str (by decide +kernel) (pa_cons (pv 2) pa_nil))) pa_nil)) pa_nil))), ?_⟩
    have hlen := trips_len hx
    have hv : EvP (tVar 0) (start ["trips", "trip", "place"] [.ref a]) H (is (.ref a)) := ev_v rfl
    have hf : (List.range xs.length).flatMap (fun i => [(ts.getD i default).start, (ts.getD i default).goal]) = ends ts := by
      rw [hlen]
      exact range_flat ts default fun t => [t.start, t.goal]
    have hlc := ev_lc2 (K := K) (i := 1) (j := 2) (f := fun i => [(ts.getD i default).start, (ts.getD i default).goal]) (vs := [1, 2]) (vs1 := [2]) (te := tCB (fun xs H Q => ∃ a, xs = [.str a] ∧ Q (.str a) H) (tCons (tVar 2) tNil)) (wi1 := iTup K (tTup (tCons (tFld K (tVar 1) "start") (tCons (tFld K (tVar 1) "goal") tNil))))
      (ei_tup hv ha) (by rw [hf, ends_len]; omega) (fun _ => rfl) (fun _ _ => rfl) (fun n x hn => ?_) (fun n x hn z hz => ev_cb (ea_cons (ev_v rfl) ea_nil) cp_strS)
    · rw [hf] at hlc
      have h64 : (mets (ends ts)).length < 64 := by
        have := mets_len (ends ts)
        rw [ends_len] at this
        omega
      refine s_ret (ev_cb (ea_cons (ev_cb (ea_cons hlc ea_nil) (cp_set (by rw [ends_len]; omega))) ea_nil) (cp_sortedX h64)) fun v H2 e2 hv => k v H2 e2 hv
    · obtain ⟨ht, _⟩ := trips_at hx hn
      have hv1 : EvP (tVar 1) ((wipe (start ["trips", "trip", "place"] [.ref a]) [1, 2]).set 1 (some x)) H (tripQ K (ts.getD n default)) := ev_var rfl ht
      intro H1 e1 R k
      refine (show EvP _ _ _ _ from ev_tup (ea_cons (ev_tstart G hv1) (ea_cons (ev_tgoal G hv1) ea_nil))) H1 e1 _ fun v H2 e2 hv => ?_
      obtain ⟨b, ys, rfl, hb, hy⟩ := hv
      rw [all2_is (xs := [.str _, .str _]) hy] at hb
      exact ⟨b, rfl, ⟨_, SqT.of hb⟩, k b H2 e2 (SqT.of hb)⟩
/-! ### need_few -/
def spNeedFew (K : PySem.W.Frag) : Sp := fun vs H Q _ => ∃ (a : Addr) (d : V) (n : Int) (xs : List V) (ts : List Tr), vs = [d, .ref a] ∧ dayQ K n d H ∧ H a = some (.tup xs) ∧ All2 (tripsQ K ts) xs H ∧ ts.length ≤ 31 ∧ (∀ t ∈ ts, t.leaves < n) ∧ (places ts).length ≤ 8 ∧ ∀ H', Same H H' → Q .non H'
theorem sp_places {a : Addr} {xs : List V} {ts : List Tr} {H : Hp} (ha : H a = some (.tup xs)) (hx : All2 (tripsQ K ts) xs H) (hl : ts.length ≤ 31) : SP (spPlaces K) [is (.ref a)] H (lstQ (txQ (places ts))) := fun H1 e vs hv Q k => by
  have ev := all2_is (xs := [.ref a]) hv
  subst ev
  exact ⟨a, xs, ts, rfl, e _ _ ha, MonoL.mono e hx, hl, fun v H' e' h' => k v H' e' h'⟩
theorem keptQ_none {b : Nat → Bool} {Φ : Nat → VQ} {n : Nat} (h : ∀ i, i < n → b i = false) : keptQ b Φ n = [] := by
  unfold keptQ
  rw [List.filter_eq_nil_iff.mpr fun i hi => by rw [h i (List.mem_range.mp hi)]; exact Bool.false_ne_true]
  rfl
theorem sc_need_few : FnScope ["day", "trips", "late", "trip"] ["day", "trips"] (defScope s_need_few) := ⟨rfl, rfl, rfl, by decide +kernel, rfl, by decide +kernel, by decide +kernel⟩
theorem sortT_nil : sortT [] = [] := by simp [sortT]
theorem lst_nil {Φs : List VQ} {v : V} {H : Hp} (h : lstQ Φs v H) (e : Φs = []) : ∃ a, v = .ref a ∧ H a = some (.lst []) := by
  subst e
  obtain ⟨a, vs, rfl, ha, hv⟩ := h
  cases hv
  exact ⟨a, rfl, ha⟩
theorem ok_need_few (G : Fc K mg) : Fn P w K mg base 2 (f_need_few K) (spNeedFew K) := by
  refine fnA G.d_need_few sc_need_few (fun _ _ _ _ _ _ us hl => match us, hl with | [_, _], _ => rfl) (fun vs H Q h => ?_) (fun vs H Q E h => h) (fun cdv A outer s H vs Q hr h => ?_)
  · obtain ⟨a, d, n, xs, ts, rfl, _⟩ := h
    rfl
  · obtain ⟨a, d, n, xs, ts, rfl, hd, ha, hx, hl, hlv, hfew, k⟩ := h
    have nd := sc_need_few.nd
    obtain ⟨t1, m1⟩ := G.i_MOST_TRIPS
    obtain ⟨t2, m2⟩ := G.i_MOST_PLACES
    refine ⟨_, pss_cons (ps_if (pt_cmpR op_gt (pe_callB call_len_seq (by rfl) G.b_len PySem.boot_len (pa_cons (pv 1) pa_nil)) (pe_glob (v := .int 40) (by rfl) m1 ⟨_, rfl⟩) (nomark _)) pss_never pss_nil) <|
      pss_cons (ps_set (i := 2) nd rfl (Or.inl rfl) (pe_callB cr_sortedS (by rfl) G.b_sorted (by decide +kernel) (pa_cons (pe_lc (te := tCB (fun xs H Q => ∃ a, xs = [.str a] ∧ Q (.str a) H) (tCons (tFld K (tVar 3) "name") tNil))
          (tt := tTest (tOp (rI0 fun i j => .bl (decide (j ≤ i))) (tFld K (tVar 3) "leaves") (tFld K (tVar 0) "length"))) (own := [("trip", 3)]) (g := gName 3) (by rfl) nd (pi_tup (pv 1)) (blkOk_by (own := [("trip", 3)]) (N := ["day", "trips", "late", "trip"]) (sc := defScope s_need_few) (by decide +kernel))
        (fun _ _ _ _ _ => pg_name (i := 3) nd rfl (Or.inl rfl)) (fun _ _ _ _ _ => pts_one (pt_cmpR op_ge (pe_fld (pv 3) rfl) (pe_fld (pv 0) rfl) (nomark _))) (fun _ _ _ _ _ => pe_callTy SkE.call_str_str (by rfl) G.b_str (by decide +kernel) (pa_cons (pe_fld (pv 3) rfl) pa_nil))) pa_nil))) <|
      pss_cons (ps_if (pt_cmpR op_gt (pe_callB call_len_seq (by rfl) G.b_len PySem.boot_len (pa_cons (pv 2) pa_nil)) pe_int (nomark _)) pss_never pss_nil) <|
      pss_one (ps_if (pt_cmpR op_gt (pe_callB call_len_seq (by rfl) G.b_len PySem.boot_len (pa_cons (pe_f (ok_places_of G) hr G.g_places_of G.d_places_of.choose_spec.kp (pa_cons (pv 1) pa_nil)) pa_nil)) (pe_glob (v := .int 8) (by rfl) m2 ⟨_, rfl⟩) (nomark _)) pss_never pss_nil), ?_⟩
    have hlen := trips_len hx
    have hv : EvP (tVar 1) (start ["day", "trips", "late", "trip"] [d, .ref a]) H (is (.ref a)) := ev_v rfl
    have c1 : decide ((40 : Int) < (xs.length : Nat)) = false := decide_eq_false (by omega)
    have t1 := ev_op (ev_cb (ea_cons hv ea_nil) (cp_lenT (K := K) ha)) (ev_k (v := .int 40)) (rp_I0 (g := fun i j => .bl (decide (j < i))))
    rw [c1] at t1
    refine s_skip (et_test t1) fun H1 e1 => ?_
    have hv1 : EvP (tVar 1) (start ["day", "trips", "late", "trip"] [d, .ref a]) H1 (is (.ref a)) := ev_v rfl
    have hlc := ev_lcT (K := K) (g := gName 3) (vs := [3]) (te := tCB (fun xs H Q => ∃ a, xs = [.str a] ∧ Q (.str a) H) (tCons (tFld K (tVar 3) "name") tNil))
      (tt := tTest (tOp (rI0 fun i j => .bl (decide (j ≤ i))) (tFld K (tVar 3) "leaves") (tFld K (tVar 0) "length"))) (ei_tup hv1 (e1 _ _ ha)) (fun _ => false) (fun _ => is .non) (by omega) fun i x hi => by
        obtain ⟨ht, ht2⟩ := trips_at hx hi
        refine ⟨(wipe (start ["day", "trips", "late", "trip"] [d, .ref a]) [3]).set 3 (some x), rfl, fun H' R hR => hR, ?_, fun z => by cases z⟩
        have h3 : EvP (tVar 3) ((wipe (start ["day", "trips", "late", "trip"] [d, .ref a]) [3]).set 3 (some x)) H1 (tripQ K (ts.getD i default)) := ev_var rfl (Mono.mono e1 ht)
        have h0 : EvP (tVar 0) ((wipe (start ["day", "trips", "late", "trip"] [d, .ref a]) [3]).set 3 (some x)) H1 (dayQ K n) := ev_var rfl (Mono.mono e1 hd)
        have := ev_op (ev_tleaves G h3) (ev_fld h0 G.c_Day G.n_Day_length rfl) (rp_I0 (g := fun i j => .bl (decide (j ≤ i))))
        have hlt := hlv _ (List.mem_of_getElem? ht2)
        rw [decide_eq_false (by omega)] at this
        exact et_test this
    rw [keptQ_none fun _ _ => rfl] at hlc
    have hso := ev_cb (ea_cons hlc ea_nil) (cp_sorted (K := K) (xs := []) (by decide))
    refine s_set hso fun v H2 e2 hv2 => ?_
    obtain ⟨b, rfl, hb⟩ := lst_nil hv2 (by rw [sortT_nil]; rfl)
    have hv3 : EvP (tVar 2) ((start ["day", "trips", "late", "trip"] [d, .ref a]).set 2 (some (.ref b))) H2 (is (.ref b)) := ev_v rfl
    have t3 := ev_op (ev_cb (ea_cons hv3 ea_nil) (cp_len (K := K) hb)) (ev_k (v := .int 0)) (rp_I0 (g := fun i j => .bl (decide (j < i))))
    refine s_skip (et_test t3) fun H3 e3 => ?_
    have e03 := (e1.trans e2).trans e3
    have hv4 : EvP (tVar 1) ((start ["day", "trips", "late", "trip"] [d, .ref a]).set 2 (some (.ref b))) H3 (is (.ref a)) := ev_v rfl
    have c4 : decide ((8 : Int) < ((txQ (places ts)).length : Nat)) = false := decide_eq_false (by unfold txQ; rw [List.length_map]; omega)
    have t4 := ev_op (ev_cb (ea_cons (ev_f (ea_cons hv4 ea_nil) (sp_places (e03 _ _ ha) (MonoL.mono e03 hx) hl)) ea_nil) (cp_lenL (K := K))) (ev_k (v := .int 8)) (rp_I0 (g := fun i j => .bl (decide (j < i))))
    rw [c4] at t4
    exact s_skip1 (et_test t4) fun H4 e4 => k H4 (e03.trans e4)
/-! ### unbalanced -/
def spUnb (K : PySem.W.Frag) : Sp := fun vs H Q _ => ∃ (a : Addr) (xs : List V) (ts : List Tr), vs = [.ref a] ∧ H a = some (.tup xs) ∧ All2 (tripsQ K ts) xs H ∧ ts.length ≤ 31 ∧
  (∀ z : Str, (ts.filter fun t => decide (t.goal = z)).length = (ts.filter fun t => decide (t.start = z)).length) ∧ ∀ H', Same H H' → Q .non H'
theorem sc_unbalanced : FnScope ["trips", "place", "ends", "trip"] ["trips"] (defScope s_unbalanced) := ⟨rfl, rfl, rfl, by decide +kernel, rfl, by decide +kernel, by decide +kernel⟩
theorem kept_trips {ts : List Tr} {n : Nat} (hn : n = ts.length) (p : Tr → Bool) : keptQ (fun i => p (ts.getD i default)) (fun i => tripQ K (ts.getD i default)) n = tripsQ K (ts.filter p) := by
  unfold keptQ tripsQ
  rw [hn]
  exact range_map ts default p (tripQ K)
theorem ok_unbalanced (G : Fc K mg) : Fn P w K mg base 2 (f_unbalanced K) (spUnb K) := by
  refine fnA G.d_unbalanced sc_unbalanced (fun _ _ _ _ _ _ us hl => match us, hl with | [_], _ => rfl) (fun vs H Q h => ?_) (fun vs H Q E h => h) (fun cdv A outer s H vs Q hr h => ?_)
  · obtain ⟨a, xs, ts, rfl, _⟩ := h
    rfl
  · obtain ⟨a, xs, ts, rfl, ha, hx, hl, hb, k⟩ := h
    have nd := sc_unbalanced.nd
    refine ⟨_, pss_cons (ps_for PassesOwn.never rfl (pi_list (pe_f (ok_places_of G) hr G.g_places_of G.d_places_of.choose_spec.kp (pa_cons (pv 0) pa_nil))) (pg_name (i := 1) nd rfl (Or.inr rfl))
        (pss_cons (ps_set (i := 2) nd rfl (Or.inl rfl) (pe_callB call_len_seq (by rfl) G.b_len PySem.boot_len (pa_cons (pe_lc (te := tVar 3) (tt := tTest (tOp rEq (tFld K (tVar 3) "goal") (tVar 1))) (own := [("trip", 3)]) (g := gName 3) (by rfl) nd (pi_tup (pv 0)) (blkOk_by (own := [("trip", 3)]) (N := ["trips", "place", "ends", "trip"]) (sc := defScope s_unbalanced) (by decide +kernel))
          (fun _ _ _ _ _ => pg_name (i := 3) nd rfl (Or.inl rfl)) (fun _ _ _ _ _ => pts_one (pt_cmpR op_eq (pe_fld (pv 3) rfl) (pv 1) (nomark _))) (fun _ _ _ _ _ => pv 3)) pa_nil)))
        (pss_one (ps_if (pt_cmpR op_ne (pv 2) (pe_callB call_len_seq (by rfl) G.b_len PySem.boot_len (pa_cons (pe_lc (te := tVar 3) (tt := tTest (tOp rEq (tFld K (tVar 3) "start") (tVar 1))) (own := [("trip", 3)]) (g := gName 3) (by rfl) nd (pi_tup (pv 0)) (blkOk_by (own := [("trip", 3)]) (N := ["trips", "place", "ends", "trip"]) (sc := defScope s_unbalanced) (by decide +kernel))
          (fun _ _ _ _ _ => pg_name (i := 3) nd rfl (Or.inl rfl)) (fun _ _ _ _ _ => pts_one (pt_cmpR op_eq (pe_fld (pv 3) rfl) (pv 1) (nomark _))) (fun _ _ _ _ _ => pv 3)) pa_nil)) (nomark _)) pss_never pss_nil)))) <|
      pss_one (ps_ret pe_non), ?_⟩
    have hlen := trips_len hx
    refine EvP.run (ev_f (ea_cons (ev_v (v := .ref a) rfl) ea_nil) (sp_places ha hx hl)) fun v H1 e1 hv => ?_
    obtain ⟨l, vs, rfl, hvl, hvs⟩ := hv
    rw [txQ_all hvs] at hvl
    refine ⟨l, rfl, ⟨_, SqL.of hvl⟩, ?_⟩
    refine for_it (walk_list (K := K) (a := l) (xs := (places ts).map V.str)) (fun n σ H' => Same H1 H' ∧ ∃ s1 s2 s3, σ = [some (.ref a), s1, s2, s3]) ⟨Same.refl _, _, _, _, rfl⟩ (fun i σ H' _ p => SqL.of (p.1 _ _ hvl)) ?_ ?_
    · rintro i x σ H2 H3 hi ⟨e2, s1, s2, s3, rfl⟩ ⟨rfl, hxi⟩
      obtain ⟨z, hz⟩ : ∃ z, x = .str z := by
        rw [List.getElem?_map] at hxi
        cases q : (places ts)[i]? with
        | none => rw [q] at hxi; cases hxi
        | some z => rw [q] at hxi; exact ⟨z, (Option.some.inj hxi).symm⟩
      subst hz
      have e02 := e1.trans e2
      have cnt : ∀ (σ : L2.St) (H4 : Hp), Same H H4 → σ[0]? = some (some (.ref a)) → σ[1]? = some (some (.str z)) → σ.length = 4 → ∀ (fl : Str) (gf : Tr → Str), (∀ (te : TE) (σ : L2.St) (H : Hp) (t : Tr), EvP te σ H (tripQ K t) → EvP (tFld K te fl) σ H (is (.str (gf t)))) →
          EvP (tCB (rLenQ K) (tCons (tLc (iTup K (tVar 0)) (gName 3) (tTest (tOp rEq (tFld K (tVar 3) fl) (tVar 1))) (tVar 3) [3]) tNil)) σ H4 (is (.int ((ts.filter fun t => decide (gf t = z)).length : Nat))) := by
        intro σ H4 e4 h0 h1 hl4 fl gf hfl
        have hlc := ev_lcT (K := K) (g := gName 3) (vs := [3]) (te := tVar 3) (tt := tTest (tOp rEq (tFld K (tVar 3) fl) (tVar 1))) (ei_tup (ev_v h0) (e4 _ _ ha)) (fun i => decide (gf (ts.getD i default) = z)) (fun i => tripQ K (ts.getD i default)) (by omega) fun i x hi => by
          obtain ⟨ht, _⟩ := trips_at hx hi
          have h3 : ((wipe σ [3]).set 3 (some x))[3]? = some (some x) := set_get (by simp [wipe, hl4])
          have h1' : ((wipe σ [3]).set 3 (some x))[1]? = some (some (.str z)) := by simp [wipe, h1]
          have hv3 : EvP (tVar 3) ((wipe σ [3]).set 3 (some x)) H4 (tripQ K (ts.getD i default)) := ev_var h3 (Mono.mono e4 ht)
          refine ⟨(wipe σ [3]).set 3 (some x), by simp [wipe, List.set_set], fun H' R hR => hR, ?_, fun _ => hv3⟩
          have := ev_op (hfl _ _ _ _ hv3) (ev_v h1') (rp_eq rfl)
          have e : decide (V.str (gf (ts.getD i default)) = V.str z) = decide (gf (ts.getD i default) = z) := decide_eq_decide.mpr ⟨fun h => by injection h, fun h => by rw [h]⟩
          rw [e] at this
          exact et_test this
        have hk := kept_trips (K := K) (ts := ts) (n := xs.length) hlen fun t => decide (gf t = z)
        rw [hk] at hlc
        refine ev_eq (ev_cb (ea_cons hlc ea_nil) cp_lenL) ?_
        unfold tripsQ
        rw [List.length_map]
      refine s_set (cnt _ H3 e02 rfl rfl rfl "goal" Tr.goal fun te σ H t h => ev_tgoal G h) fun v H4 e4 hv4 => ?_
      cases hv4
      have t2 := ev_op (ev_v (i := 2) (v := .int ((ts.filter fun t => decide (t.goal = z)).length : Nat)) (σ := [some (.ref a), some (.str z), some (.int ((ts.filter fun t => decide (t.goal = z)).length : Nat)), s3]) (H := H4) rfl) (cnt _ H4 (e02.trans e4) rfl rfl rfl "start" Tr.start fun te σ H t h => ev_tstart G h) (rp_ne rfl)
      refine s_skip1 (et_eq (et_test t2) (by rw [hb z]; simp)) fun H5 e5 => ⟨(e2.trans e4).trans e5, _, _, _, rfl⟩
    · rintro σ H2 ⟨e2, _⟩
      exact k H2 (e1.trans e2)
end
end K22

set_option Elab.async false
set_option linter.all false
set_option pp.maxSteps 400
set_option maxRecDepth 100000
set_option maxHeartbeats 4000000
/-! C8: trips in order. -/
namespace K22
open PySem PySem.Spec PyProof.Rows L2
section
variable {σ : L2.St} {H : Hp} {te ts tk tv : TE} {tt : TT} {wi : TI} {K : PySem.W.Frag} {vs : List Nat} {xs : List V}
theorem ev_fmtZ {i : Int} (h : EvP te σ H (is (.int i))) (hs : EvP ts σ H (is (.str "013d"))) (h0 : 0 ≤ i) (h1 : i < 10 ^ 18) : EvP (tFmtZ te ts) σ H (is (.str (pad13 i))) := fun H1 e Q k =>
  h H1 e _ fun v H2 e2 hv => hs H2 (e.trans e2) _ fun u H3 e3 hu => ⟨i, hv, hu, h0, h1, k _ H3 (e2.trans e3) rfl⟩
/-- a dict of texts, its values by predicates -/
def dictQ (ks : List Str) (Φs : List VQ) : VQ := fun x H => ∃ a vs, x = .ref a ∧ H a = some (.dK (inrs (ks.zip vs))) ∧ All2 Φs vs H ∧ ks.length = vs.length
/-- true whatever a dict holds -/
class StabD (Φ : VQ) : Prop where
  st : ∀ {v : V} {H : Hp} {a : Addr} {kvs ls : List (Key × V)}, H a = some (.dK kvs) → Φ v H → Φ v (upd H a (.dK ls))
instance {v : V} : StabD (is v) := ⟨fun _ h => h⟩
instance {C : Addr} {fs : List (Str × V)} : StabD (insQ C fs) := ⟨fun e ⟨b, dx, h1, h2⟩ => ⟨b, dx, h1, by rw [upd_ne (by rintro rfl; rw [e] at h2; cases h2)]; exact h2⟩⟩
instance {t : Tr} : StabD (tripQ K t) := by unfold tripQ; exact inferInstance
theorem all2_stabD {Φs : List VQ} (m : ∀ Φ ∈ Φs, StabD Φ) {vs : List V} {H : Hp} {a : Addr} {kvs ls : List (Key × V)} (e : H a = some (.dK kvs)) (h : All2 Φs vs H) : All2 Φs vs (upd H a (.dK ls)) := by
  induction Φs generalizing vs with
  | nil => cases h; exact .nil
  | cons Φ Φs ih =>
    cases h with
    | cons x r => exact .cons ((m Φ (.head _)).st e x) (ih (fun Ψ hΨ => m Ψ (.tail _ hΨ)) r)
theorem valV_none {kvs : List (Key × V)} {k : Key} (h : k ∉ kvs.map (·.1)) : valV kvs k = none := by
  cases e : valV kvs k with
  | none => rfl
  | some v => exact absurd (valV_in e) h
theorem zip_fst {α β : Type} : ∀ {ks : List α} {vs : List β}, ks.length = vs.length → (ks.zip vs).map (·.1) = ks := fun h => map_zip_fst h
theorem inrs_fst (kvs : List (Str × V)) : (inrs kvs).map (·.1) = (kvs.map (·.1)).map Sum.inr := by
  rw [List.map_map, List.map_map]
  rfl
/-- {k: v for .. in list}, the keys all different -/
theorem ev_dcL (hi : EiL K wi σ H xs) {g : TG} (f : Nat → Str) (Φ : Nat → VQ) [mΦ : ∀ x, Stab (Φ x)] [mD : ∀ x, StabD (Φ x)] (hl : xs.length ≤ 1000) (nd : ((List.range xs.length).map f).Nodup)
    (hg : ∀ n x, xs[n]? = some x → ∃ σx, wipe σx vs = wipe σ vs ∧ (∀ H' R, R σx H' → g x (wipe σ vs) H' R) ∧ EvP tk σx H (is (.str (f n))) ∧ EvP tv σx H (Φ n)) :
    EvP (tDc wi g tYes tk tv vs) σ H (dictQ ((List.range xs.length).map f) ((List.range xs.length).map Φ)) := fun H1 e Q k => hi H1 e _ fun a H2 e2 hs D hD => by
  have e3 := e.trans e2
  refine ⟨fun i m H' => m = xs.length - i ∧ i ≤ xs.length ∧ Same H2 H' ∧ ∃ vs, H' D = some (.dK (inrs (((List.range i).map f).zip vs))) ∧ All2 ((List.range i).map Φ) vs H' ∧ i = vs.length, ⟨_, rfl, Nat.zero_le _, same_new hD, [], upd_same, .nil, rfl⟩, ?_⟩
  rintro n m H3 ⟨rfl, hn, s3, ws, h3, hw, hnl⟩
  by_cases hlt : n < xs.length
  · refine .inr ⟨⟨xs, xs[n], s3.seq hs, List.getElem?_eq_getElem hlt⟩, fun H' => Same H2 H' ∧ ∃ vs, H' D = some (.dK (inrs (((List.range (n + 1)).map f).zip vs))) ∧ All2 ((List.range (n + 1)).map Φ) vs H' ∧ n + 1 = vs.length, fun H' p => ⟨xs.length - (n + 1), by omega, rfl, hlt, p⟩, fun x H4 y => ?_⟩
    obtain ⟨rfl, y⟩ := y
    have hx := y xs (s3.seq hs)
    obtain ⟨σx, hw1, hgx, hk, hv⟩ := hg n x hx
    refine hgx _ _ ⟨hw1, ?_⟩
    refine hk _ (e3.trans s3) _ fun u H5 e5 hu => ?_
    refine hv _ ((e3.trans s3).trans e5) _ fun z H6 e6 hz => ?_
    have hD6 := e6 _ _ (e5 _ _ h3)
    refine ⟨_, Sum.inr (f n), hu, hD6, ?_, same_mut ((s3.trans e5).trans e6) hD, ws ++ [z], ?_, ?_, by rw [List.length_append, ← hnl]; rfl⟩
    · rw [List.length_map, List.length_zip, List.length_map, List.length_range]
      exact small1000 (by omega)
    · have hfr : (Sum.inr (f n) : Key) ∉ (inrs (((List.range n).map f).zip ws)).map (·.1) := by
        rw [inrs_fst, zip_fst (by rw [List.length_map, List.length_range]; exact hnl)]
        intro hm
        obtain ⟨q, hq, e⟩ := List.mem_map.mp hm
        obtain ⟨r, hr, e2⟩ := List.mem_map.mp hq
        have hr' := List.mem_range.mp hr
        have : f r = f n := by injection e.symm with e; rw [e2]; exact e.symm
        have hp := List.pairwise_iff_getElem.mp nd r n (by simp; omega) (by simp; omega) hr'
        simp at hp
        exact hp this
      rw [upd_same, putK_new _ (valV_none hfr), List.range_succ, List.map_append, List.zip_append (by rw [List.length_map, List.length_range]; exact hnl)]
      unfold inrs
      rw [List.map_append]
      rfl
    · rw [List.range_succ, List.map_append]
      have mk : StabL ((List.range n).map Φ) := inferInstance
      refine (all2_stabD (fun Ψ hΨ => ?_) hD6 (mk.st (nl_same (e5.trans e6)) hw)).app (.cons ((mD n).st hD6 hz) .nil)
      obtain ⟨r, _, rfl⟩ := List.mem_map.mp hΨ
      exact mD r
  · obtain rfl : n = xs.length := by omega
    exact .inl ⟨⟨xs, s3.seq hs, Nat.le_refl _⟩, k _ _ (e2.trans s3) ⟨D, ws, rfl, h3, hw, by rw [List.length_map, List.length_range]; exact hnl⟩⟩
theorem ei_lstQ {zs : List Str} (h : EvP te σ H (lstQ (txQ zs))) : EiL K (iList K te) σ H (zs.map V.str) := fun H1 e R k => h H1 e _ fun v H2 e2 ⟨a, vs, hv, ha, hs⟩ => by
  rw [txQ_all hs] at ha
  exact ⟨a, hv, ⟨_, SqL.of ha⟩, k a H2 e2 (SqL.of ha)⟩
theorem ev_dget {Φ : VQ} [mΦ : Mono Φ] {b : Addr} {kvs : List (Key × V)} {z : Str} {v : V} (hb : H b = some (.dK kvs)) (h1 : EvP te σ H (is (.ref b))) (h2 : EvP ts σ H (is (.str z))) (hv : valV kvs (Sum.inr z : Key) = some v) (hp : Φ v H) : EvP (tDGet te ts) σ H Φ := fun H1 e Q k =>
  h1 H1 e _ fun x H2 e2 hx => h2 H2 (e.trans e2) _ fun y H3 e3 hy => ⟨b, v, hx, by
    cases hy
    rw [← hv]
    exact DGet.k (k := Sum.inr z) (e3 _ _ (e2 _ _ (e _ _ hb))), k _ H3 (e2.trans e3) (mΦ.mono ((e.trans e2).trans e3) hp)⟩
theorem find_zip {ks : List Str} {vs : List V} {i : Nat} {z : Str} {v : V} (nd : ks.Nodup) (hk : ks[i]? = some z) (hv : vs[i]? = some v) : valV (inrs (ks.zip vs)) (Sum.inr z : Key) = some v := by
  induction ks generalizing vs i with
  | nil => simp at hk
  | cons k ks ih =>
    cases vs with
    | nil => simp at hv
    | cons w vs =>
      obtain ⟨n1, n2⟩ := List.nodup_cons.mp nd
      cases i with
      | zero =>
        simp at hk hv
        subst hk hv
        unfold valV inrs
        simp
      | succ i =>
        simp at hk hv
        have hne : k ≠ z := fun e => n1 (e ▸ List.mem_of_getElem? hk)
        have := ih n2 hk hv
        unfold valV inrs at *
        rw [List.zip_cons_cons, List.map_cons, List.find?_cons_of_neg (by simp [hne])]
        exact this
end
/-- a trip's key -/
def Tr.key (t : Tr) : Str := catS Str.empty [pad13 t.leaves, " ", t.name]
section
variable {P : Program} {w : World} {K : PySem.W.Frag} {mg : Str → Option Value} {base : Heap}
/-- a trip at an address -/
def prQ (K : PySem.W.Frag) (p : Addr × Tr) : VQ := fun v H => v = .ref p.1 ∧ tripQ K p.2 v H
instance {p : Addr × Tr} : Stab (prQ K p) := ⟨fun e h => ⟨h.1, Stab.st e h.2⟩⟩
instance {p : Addr × Tr} : StabD (prQ K p) := ⟨fun e h => ⟨h.1, StabD.st e h.2⟩⟩
def prsQ (K : PySem.W.Frag) (ps : List (Addr × Tr)) : List VQ := ps.map (prQ K)
instance {ps : List (Addr × Tr)} : StabL (prsQ K ps) := by unfold prsQ; exact inferInstance
instance : Inhabited (Addr × Tr) := ⟨⟨Nat.zero, default⟩⟩
def trs (ps : List (Addr × Tr)) : List Tr := ps.map (·.2)
def refs (ps : List (Addr × Tr)) : List V := ps.map fun p => .ref p.1
theorem prs_len {ps : List (Addr × Tr)} {vs : List V} {H : Hp} (h : All2 (prsQ K ps) vs H) : vs.length = ps.length := by rw [← h.length]; exact List.length_map _
theorem prs_at {ps : List (Addr × Tr)} {vs : List V} {H : Hp} (h : All2 (prsQ K ps) vs H) {i : Nat} {v : V} (hv : vs[i]? = some v) : prQ K (ps.getD i default) v H ∧ ps[i]? = some (ps.getD i default) := by
  obtain ⟨Φ, h1, h2⟩ := h.get hv
  unfold prsQ at h1
  rw [List.getElem?_map] at h1
  cases ht : ps[i]? with
  | none => rw [ht] at h1; cases h1
  | some t =>
    rw [ht] at h1
    cases h1
    rw [List.getD_eq_getElem?_getD, ht]
    exact ⟨h2, rfl⟩
theorem prs_refs {ps : List (Addr × Tr)} {vs : List V} {H : Hp} (h : All2 (prsQ K ps) vs H) : vs = refs ps := by
  induction ps generalizing vs with
  | nil => cases h; rfl
  | cons p ps ih =>
    cases h with
    | cons a r =>
      rw [ih r, a.1]
      rfl
theorem prs_trips {ps : List (Addr × Tr)} {vs : List V} {H : Hp} (h : All2 (prsQ K ps) vs H) : All2 (tripsQ K (trs ps)) vs H := by
  induction ps generalizing vs with
  | nil => cases h; exact .nil
  | cons p ps ih =>
    cases h with
    | cons a r => exact .cons a.2 (ih r)
theorem trips_prs {ts : List Tr} {vs : List V} {H : Hp} (h : All2 (tripsQ K ts) vs H) : ∃ ps, ts = trs ps ∧ All2 (prsQ K ps) vs H := by
  induction ts generalizing vs with
  | nil => cases h; exact ⟨[], rfl, .nil⟩
  | cons t ts ih =>
    cases h with
    | cons a r =>
      obtain ⟨ps, rfl, hp⟩ := ih r
      obtain ⟨b, dx, rfl, hb⟩ := id a
      exact ⟨(b, t) :: ps, rfl, .cons ⟨rfl, a⟩ hp⟩
def spOrder (K : PySem.W.Frag) : Sp := fun vs H Q _ => ∃ (a : Addr) (xs : List V) (ts us : List (Addr × Tr)), vs = [.ref a] ∧ H a = some (.lst xs) ∧ All2 (prsQ K ts) xs H ∧ ts.length ≤ 60 ∧ (∀ t ∈ ts, t.2.Ok) ∧ us.Perm ts ∧ (us.map (·.2.key)).Pairwise (fun a b => sLt a b = true) ∧ ∀ v H', Same H H' → lstQ (prsQ K us) v H' → Q v H'
theorem sc_in_order : FnScope ["trips", "found", "trip", "key"] ["trips"] (defScope s_in_order) := ⟨rfl, rfl, rfl, by decide +kernel, rfl, by decide +kernel, by decide +kernel⟩
theorem pad13_len {i : Int} (h0 : 0 ≤ i) (h1 : i ≤ 1000000000000) : (pad13 i).length ≤ 26 := by
  unfold pad13
  rw [str_app_len]
  have := toStr_len h0 h1
  have h2 : ((⟨(List.replicate (13 - (Nat.toDigits 10 i.natAbs).length) 48).toArray⟩ : Str)).length ≤ 13 := by
    show (List.replicate (13 - (Nat.toDigits 10 i.natAbs).length) 48).toArray.size ≤ 13
    simp
  have h3 : (Str.ofString (toString i)).length ≤ 13 := this
  omega
theorem ok_in_order (G : Fc K mg) : Fn P w K mg base 1 (f_in_order K) (spOrder K) := by
  refine fnA G.d_in_order sc_in_order (fun _ _ _ _ _ _ us hl => match us, hl with | [_], _ => rfl) (fun vs H Q h => ?_) (fun vs H Q E h => h) (fun cdv A outer s H vs Q hr h => ?_)
  · obtain ⟨a, xs, ts, us, rfl, _⟩ := h
    rfl
  · obtain ⟨a, xs, ts, us, rfl, ha, hx, hl, hok, hp, hs, k⟩ := h
    have nd := sc_in_order.nd
    have hu := hu_of hr
    refine ⟨_, pss_cons (ps_set (i := 1) nd rfl (Or.inr rfl) (pe_dc (tk := fun σ H Q => tJs [tFmtZ (tFld K (tVar 2) "leaves") (tC (.str "013d")), tC (.str " "), tFmt (tFld K (tVar 2) "name")] Str.empty σ H fun out H1 => Q (.str out) H1) (tv := tVar 2) (own := [("trip", 2)]) (g := gName 2) (by rfl) nd (pi_list (pv 0)) (blkOk_by (own := [("trip", 2)]) (N := ["trips", "found", "trip", "key"]) (sc := defScope s_in_order) (by decide +kernel))
        (fun _ _ _ _ _ => pg_name (i := 2) nd rfl (Or.inl rfl)) (fun _ _ _ _ _ => pts_nil) (fun _ _ _ _ _ => pe_joined (.cons (pe_fmtZ G.dig (pe_fld (pv 2) rfl) (pe_joined1 pe_str)) (.cons pe_str (.cons (pe_fmt (pe_fld (pv 2) rfl)) .nil)))) (fun _ _ _ _ _ => pv 2))) <|
      pss_one (ps_ret (pe_lc (te := tDGet (tVar 1) (tVar 3)) (own := [("key", 3)]) (g := gName 3) (by rfl) nd (pi_list (pe_callB cr_sortedS (by rfl) G.b_sorted (by decide +kernel) (pa_cons (pe_lock (pe_lc (te := tCB (fun xs H Q => ∃ a, xs = [.str a] ∧ Q (.str a) H) (tCons (tVar 3) tNil)) (own := [("key", 3)]) (g := gName 3) (by rfl) nd (pi_keys (pv 1)) (blkOk_by (own := [("key", 3)]) (N := ["trips", "found", "trip", "key"]) (sc := defScope s_in_order) (by decide +kernel))
        (fun _ _ _ _ _ => pg_name (i := 3) nd rfl (Or.inl rfl)) (fun _ _ _ _ _ => pts_nil) (fun _ _ _ _ _ => pe_callTy SkE.call_str_str (by rfl) G.b_str (by decide +kernel) (pa_cons (pv 3) pa_nil)))) pa_nil)))
        (blkOk_by (own := [("key", 3)]) (N := ["trips", "found", "trip", "key"]) (sc := defScope s_in_order) (by decide +kernel)) (fun _ _ _ _ _ => pg_name (i := 3) nd rfl (Or.inl rfl)) (fun _ _ _ _ _ => pts_nil) (fun _ _ _ _ _ => pe_dget hu (pv 1) (pv 3) (fun _ _ => rfl)))), ?_⟩
    have hlen := prs_len hx
    have hks : (List.range xs.length).map (fun i => (ts.getD i default).2.key) = ts.map (·.2.key) := by
      have := range_map1 ts default (·.2.key)
      rw [List.filter_eq_self.mpr fun _ _ => rfl] at this
      rw [hlen]
      exact this
    have hnd : (ts.map (·.2.key)).Nodup := ((hp.map (·.2.key)).nodup_iff).mp (strict_nd hs)
    have hdc := ev_dcL (K := K) (g := gName 2) (vs := [2]) (tk := fun σ H Q => tJs [tFmtZ (tFld K (tVar 2) "leaves") (tC (.str "013d")), tC (.str " "), tFmt (tFld K (tVar 2) "name")] Str.empty σ H fun out H1 => Q (.str out) H1) (tv := tVar 2)
      (ei_lst (K := K) (ev_v (i := 0) (σ := start ["trips", "found", "trip", "key"] [.ref a]) rfl) ha) (fun i => (ts.getD i default).2.key) (fun i => prQ K (ts.getD i default)) (by omega) (by rw [hks]; exact hnd) fun i x hi => by
        obtain ⟨ht, ht2⟩ := prs_at hx hi
        have h2 : EvP (tVar 2) ((wipe (start ["trips", "found", "trip", "key"] [.ref a]) [2]).set 2 (some x)) H (tripQ K (ts.getD i default).2) := ev_var rfl ht.2
        have o := hok _ (List.mem_of_getElem? ht2)
        have o1 := o.l0
        have o2 := o.l1
        have n1 := name_len o.name
        have n2 := pad13_len o1 o2
        refine ⟨(wipe (start ["trips", "found", "trip", "key"] [.ref a]) [2]).set 2 (some x), rfl, fun H' R hR => hR, ?_, ev_var rfl ht⟩
        refine ev_joined (.cons (ev_fmtZ (ev_tleaves G h2) ev_k o1 (by omega)) (.cons ev_k (.cons (ev_fmtS (ev_tname G h2) (by omega)) .nil))) ?_
        have s1 : ((" " : Str)).length = 1 := rfl
        simp only [List.map_cons, List.map_nil, List.sum_cons, List.sum_nil, s1]
        omega
    refine s_set hdc fun v H1 e1 hv => ?_
    obtain ⟨b, ws, rfl, hb, hw, hwl⟩ := hv
    rw [hks] at hb hwl
    have hkl : ((ts.map (·.2.key)).zip ws).length ≤ 1000 := by rw [List.length_zip, List.length_map]; omega
    have hst : sortT (ts.map (·.2.key)) = us.map (·.2.key) := sortT_of_strict hs (hp.map _)
    have hkeys := ev_keysStr (σ := (start ["trips", "found", "trip", "key"] [.ref a]).set 1 (some (.ref b))) (i := 1) (j := 3) rfl rfl (by show 3 < 4; omega) hb hkl
    rw [map_zip_fst hwl] at hkeys
    have hsorted := ev_cb (ea_cons hkeys ea_nil) (cp_sorted (K := K) (by rw [List.length_map]; omega))
    rw [hst] at hsorted
    have hul : us.length = ts.length := hp.length_eq
    have hlc := ev_lcL (K := K) (g := gName 3) (vs := [3]) (te := tDGet (tVar 1) (tVar 3)) (tt := tYes) (ei_lstQ hsorted) (fun _ => true) (fun j => prQ K (us.getD j default)) (by rw [List.length_map, List.length_map]; omega) fun j x hj => by
        rw [List.getElem?_map, List.getElem?_map] at hj
        cases hu2 : us[j]? with
        | none => rw [hu2] at hj; cases hj
        | some u =>
          rw [hu2] at hj
          cases hj
          obtain ⟨i, hi⟩ := List.getElem?_of_mem (hp.mem_iff.mp (List.mem_of_getElem? hu2))
          have hgd : us.getD j default = u := by rw [List.getD_eq_getElem?_getD, hu2]; rfl
          have hki : (ts.map (·.2.key))[i]? = some u.2.key := by rw [List.getElem?_map, hi]; rfl
          have hil : i < ts.length := (List.getElem?_eq_some_iff.mp hi).1
          obtain ⟨wv, hwv⟩ : ∃ wv, ws[i]? = some wv := ⟨ws[i]'(by rw [← hwl, List.length_map]; exact hil), List.getElem?_eq_getElem _⟩
          have htr : prQ K u wv H1 := by
            obtain ⟨Φ, h1, h2⟩ := hw.get hwv
            rw [List.getElem?_map, List.getElem?_range (by rw [hlen]; exact hil)] at h1
            cases h1
            have : ts.getD i default = u := by rw [List.getD_eq_getElem?_getD, hi]; rfl
            rw [← this]
            exact h2
          refine ⟨(wipe ((start ["trips", "found", "trip", "key"] [.ref a]).set 1 (some (.ref b))) [3]).set 3 (some (.str u.2.key)), rfl, fun H' R hR => hR, et_yes, fun _ => ?_⟩
          rw [hgd]
          exact ev_dget hb (ev_v rfl) (ev_v rfl) (find_zip hnd hki hwv) htr
    refine s_ret hlc fun v H2 e2 hv2 => k v H2 (e1.trans e2) ?_
    have e : keptQ (fun _ => true) (fun j => prQ K (us.getD j default)) ((us.map (·.2.key)).map V.str).length = prsQ K us := by
      rw [List.length_map, List.length_map]
      exact range_map1 us default (prQ K)
    rw [e] at hv2
    exact hv2
end
end K22

set_option Elab.async false
set_option linter.all false
set_option pp.maxSteps 400
set_option maxRecDepth 100000
set_option maxHeartbeats 4000000
/-! R11: tuple(list), the object kept: its methods. -/
namespace K22
open PySem PySem.Spec PyProof.Rows L2
section
variable {X : Cx}
def rTupF (K : PySem.W.Frag) : List V → Hp → VK → Prop := fun xs H Q => ∃ p ys, xs = [.ref p] ∧ SqL K H p ys ∧ ∀ l o, H l = none → o.dict = none → Q (.ref l) (upd H l (.frz o (.tup ys)))
theorem call_tupF : CallR X (.type "tuple") (rTupF X.K) := by
  intro pins s σ H xs us Q I r h
  obtain ⟨p, ys, rfl, hq, q⟩ := h
  obtain ⟨u, rfl, rx⟩ := L2.vals1 r
  cases rx
  obtain ⟨its, r', pl, hz⟩ := I.list hq
  have hlen := r'.length
  refine call_tuple_list pl.isList (fun h' kp => ?_) (by simp only [List.size_toArray] <;> omega)
  have I1 : Inv X pins σ H { s with heap := h' } := I.kept (t' := s.toks) kp
  have I2 : Inv X pins σ (upd H h'.objs.size (.frz { cls := .type "tuple", data := .seq its.toArray } (.tup ys))) { s with heap := h'.push { cls := .type "tuple", data := .seq its.toArray } } :=
    I1.laid (t' := s.toks) (fun b o e => Heap.get?_push_of_some _ e) (Nat.le_refl _) (show ObjOk X.prog X.w _ _ _ (.frz _ (.tup ys)) from ⟨Heap.get?_push_size _ rfl, hz, its, r', IsTup.new _ _⟩)
  exact ⟨.ref h'.objs.size, _, I2, rfl, q _ _ (I1.hok.fresh (Nat.le_refl _)) rfl⟩
def tyTF (x : V) (H : Hp) : Prop := ∃ a o vs, x = .ref a ∧ o.dict = none ∧ H a = some (.frz o (.tup vs))
theorem ty_tupF : TyOk X "tuple" tyTF := by
  intro pins σ H s x v I r ty
  obtain ⟨a, o, vs, rfl, hd, e⟩ := ty
  cases r
  obtain ⟨h1, _, its, rv, o', h2, h3, _⟩ := (show ObjOk X.prog X.w H s.heap a (.frz o (.tup vs)) from I.hok a _ e)
  refine ⟨⟨_, h2, h3⟩, fun b hb => ?_⟩
  cases hb
  exact ⟨_, h1, hd⟩
end
def tupF (Φs : List VQ) : VQ := fun x H => ∃ a o vs, x = .ref a ∧ o.dict = none ∧ H a = some (.frz o (.tup vs)) ∧ All2 Φs vs H
instance {Φs : List VQ} [m : StabL Φs] : Stab (tupF Φs) := ⟨fun e ⟨a, o, vs, h1, h2, h3, h4⟩ => ⟨a, o, vs, h1, h2, (e a _ h3).elim id (fun ⟨_, _, q, _⟩ => nomatch q), m.st e h4⟩⟩
section
variable {K : PySem.W.Frag} {H : Hp} {σ : L2.St} {te : TE}
theorem SqT.frz {a : Addr} {o : Obj} {vs : List V} (h : H a = some (.frz o (.tup vs))) : SqT K H a vs := .inl (.inr ⟨o, h⟩)
theorem cp_tupF {Φs : List VQ} [m : MonoL Φs] : CP (rTupF K) [lstQ Φs] H (tupF Φs) := fun H1 e vs hv Q k => by
  cases hv with
  | cons h1 h =>
  cases h
  obtain ⟨a, vs, rfl, ha, hs⟩ := h1
  exact ⟨a, vs, rfl, SqL.of ha, fun l o hl hd => k _ _ (same_new hl) ⟨l, o, vs, rfl, hd, upd_same, m.mono (same_new hl) hs⟩⟩
end
end K22

set_option Elab.async false
set_option linter.all false
set_option pp.maxSteps 400
set_option maxRecDepth 100000
set_option maxHeartbeats 4000000
/-! C9: a table made. -/
namespace K22
open PySem PySem.Spec PyProof.Rows L2
/-- a table -/
def tabAt (K : PySem.W.Frag) (T : Tb) (x : Addr) (H : Hp) : Prop := ∃ dx d nm pl rw, H x = some (.ins (cTable K) dx [("day", d), ("names", nm), ("places", pl), ("rows", rw)]) ∧ dayQ K T.day d H ∧ tupF (txQ T.names) nm H ∧ tupQ (txQ (places T.rows)) pl H ∧ tupQ (tripsQ K T.rows) rw H
def tabQ (K : PySem.W.Frag) (T : Tb) : VQ := fun v H => ∃ x, v = .ref x ∧ tabAt K T x H
instance {K : PySem.W.Frag} {T : Tb} : Stab (tabQ K T) := ⟨fun e ⟨x, h, dx, d, nm, pl, rw, h1, h2, h3, h4, h5⟩ => ⟨x, h, dx, d, nm, pl, rw, e.ins h1, Stab.st e h2, Stab.st e h3, Stab.st e h4, Stab.st e h5⟩⟩
section
variable {w : World} {K : PySem.W.Frag} {mg : Str → Option Value} {base : Heap}
def spTabInit (K : PySem.W.Frag) : Sp := fun vs H Q _ => ∃ (x dx a : Addr) (d : V) (xs : List V) (ts : List Tr) (T : Tb), vs = [.ref x, d, .ref a] ∧ H x = some (.ins (cTable K) dx []) ∧ dayQ K T.day d H ∧ H a = some (.tup xs) ∧ All2 (tripsQ K ts) xs H ∧ ts.Perm T.rows ∧ T.Ok ∧
  ∀ H', KeepX x H H' → tabAt K T x H' → Q .non H'
theorem nil_get {α : Type} {C : Prop} {j : Nat} {l : α} (h : ([] : List α)[j]? = some l) : C := by simp at h
theorem sc_Table_init : FnScope ["self", "day", "trips", "by_name", "trip", "names", "twice", "place", "name"] ((["self", "day"] : List Str) ++ [("trips" : Str)]) (defScope s_Table_init) := ⟨rfl, rfl, rfl, by decide +kernel, rfl, by decide +kernel, by decide +kernel⟩
theorem flds4 (a b c d : V) : putF "rows" d (putF "places" c (putF "names" b (putF "day" a []))) = ([("day", a), ("names", b), ("places", c), ("rows", d)] : List (Str × V)) := by
  have h1 : ¬ (("day" : Str) = "names") := by decide +kernel
  have h2 : ¬ (("day" : Str) = "places") := by decide +kernel
  have h3 : ¬ (("names" : Str) = "places") := by decide +kernel
  have h4 : ¬ (("day" : Str) = "rows") := by decide +kernel
  have h5 : ¬ (("names" : Str) = "rows") := by decide +kernel
  have h6 : ¬ (("places" : Str) = "rows") := by decide +kernel
  simp only [putF, if_neg h1, if_neg h2, if_neg h3, if_neg h4, if_neg h5, if_neg h6]
/-- all but x -/
def dropX (x : Addr) (H : Hp) : Hp := fun b => if b = x then none else H b
theorem dropX_x {x : Addr} {H : Hp} : dropX x H x = none := if_pos rfl
theorem dropX_ne {x b : Addr} {H : Hp} (h : b ≠ x) : dropX x H b = H b := if_neg h
theorem dropX_same {x : Addr} {H : Hp} : Same (dropX x H) H := fun b o h => by
  by_cases e : b = x
  · subst e; rw [dropX_x] at h; cases h
  · rw [dropX_ne e] at h; exact h
theorem dropX_mono {x : Addr} {S H : Hp} (hx : S x = none) (e : Same S H) : Same S (dropX x H) := fun b o h => by
  rw [dropX_ne (ne_of_none h hx)]
  exact e b o h
theorem dropX_ins {x C C' dx : Addr} {fs gs : List (Str × V)} {v : V} {H : Hp} (hx : H x = some (.ins C dx fs)) (hl : gs.length ≠ fs.length) (h : insQ C' gs v H) : insQ C' gs v (dropX x H) := by
  obtain ⟨a, da, rfl, ha⟩ := h
  refine ⟨a, da, rfl, ?_⟩
  rw [dropX_ne]
  · exact ha
  · rintro rfl
    rw [hx] at ha
    injection ha with ha
    injection ha with _ _ hf
    exact hl (by rw [hf])
theorem dropX_trips {x C dx : Addr} {fs : List (Str × V)} {H : Hp} (hx : H x = some (.ins C dx fs)) (hl : fs.length < 5) {ts : List Tr} {vs : List V} (h : All2 (tripsQ K ts) vs H) : All2 (tripsQ K ts) vs (dropX x H) := by
  induction ts generalizing vs with
  | nil => cases h; exact .nil
  | cons t ts ih =>
    cases h with
    | cons a r => exact .cons (dropX_ins hx (by show 5 ≠ fs.length; omega) a) (ih r)
theorem dropX_tup {x C dx : Addr} {fs : List (Str × V)} {H : Hp} (hx : H x = some (.ins C dx fs)) {b : Addr} {vs : List V} (h : H b = some (.tup vs)) : dropX x H b = some (.tup vs) := by
  rw [dropX_ne]
  · exact h
  · rintro rfl; rw [hx] at h; cases h
theorem dropX_lst {x C dx : Addr} {fs : List (Str × V)} {H : Hp} (hx : H x = some (.ins C dx fs)) {b : Addr} {vs : List V} (h : H b = some (.lst vs)) : dropX x H b = some (.lst vs) := by
  rw [dropX_ne]
  · exact h
  · rintro rfl; rw [hx] at h; cases h
theorem dropX_dK {x C dx : Addr} {fs : List (Str × V)} {H : Hp} (hx : H x = some (.ins C dx fs)) {b : Addr} {vs : List (Key × V)} (h : H b = some (.dK vs)) : dropX x H b = some (.dK vs) := by
  rw [dropX_ne]
  · exact h
  · rintro rfl; rw [hx] at h; cases h
theorem dropX_keep {x : Addr} {H H' : Hp} (e : KeepX x H H') : Same (dropX x H) H' := fun b o h => by
  by_cases q : b = x
  · subst q; rw [dropX_x] at h; cases h
  · rw [dropX_ne q] at h; exact e b o q h
theorem dropX_txs {x C dx : Addr} {fs : List (Str × V)} {H : Hp} (hx : H x = some (.ins C dx fs)) {zs : List Str} {v : V} (h : tupQ (txQ zs) v H) : tupQ (txQ zs) v (dropX x H) := by
  obtain ⟨a, vs, rfl, ha, hv⟩ := h
  rw [txQ_all hv] at ha
  exact ⟨a, _, rfl, dropX_tup hx ha, all_txQ⟩
theorem dropX_txsF {x C dx : Addr} {fs : List (Str × V)} {H : Hp} (hx : H x = some (.ins C dx fs)) {zs : List Str} {v : V} (h : tupF (txQ zs) v H) : tupF (txQ zs) v (dropX x H) := by
  obtain ⟨a, o, vs, rfl, hd, ha, hv⟩ := h
  rw [txQ_all hv] at ha
  refine ⟨a, o, _, rfl, hd, ?_, all_txQ⟩
  rw [dropX_ne]
  · exact ha
  · rintro rfl; rw [hx] at ha; cases ha
theorem dropX_rows {x C dx : Addr} {fs : List (Str × V)} {H : Hp} (hx : H x = some (.ins C dx fs)) (hl : fs.length < 5) {ts : List Tr} {v : V} (h : tupQ (tripsQ K ts) v H) : tupQ (tripsQ K ts) v (dropX x H) := by
  obtain ⟨a, vs, rfl, ha, hv⟩ := h
  exact ⟨a, _, rfl, dropX_tup hx ha, dropX_trips hx hl hv⟩
theorem ev_weak {te : TE} {σ : L2.St} {H : Hp} {v : V} {Φ : VQ} [m : Mono Φ] (h : EvP te σ H (is v)) (p : Φ v H) : EvP te σ H Φ := fun H1 e Q k => h H1 e _ fun u H2 e2 hu => by
  cases hu
  exact k v H2 e2 (m.mono (e.trans e2) p)
theorem s_fldQ {σ : L2.St} {H S : Hp} {i : Nat} {x C dx : Addr} {fs : List (Str × V)} {f : Str} {Φ : VQ} {tv : TE} {u : TS} {D : Ends} (hi : σ[i]? = some (some (.ref x))) (e : Same S H) (hx : H x = some (.ins C dx fs)) (cl : Cls K C) (na : NoAttr K C f) (len : fs.length < 1000)
    (hv : EvP tv σ S Φ) (k : ∀ y H2, Same H H2 → H2 x = some (.ins C dx fs) → Φ y H2 → u D σ (upd H2 x (.ins C dx (putF f y fs)))) : tSeq (sFld K (tVar i) tv f) u D σ H := hv H e _ fun y H2 e2 h2 => ⟨_, hi, x, C, dx, fs, rfl, e2 _ _ hx, cl, na, len, k y H2 e2 (e2 _ _ hx) h2⟩
theorem s_fldQ1 {σ : L2.St} {H S : Hp} {i : Nat} {x C dx : Addr} {fs : List (Str × V)} {f : Str} {Φ : VQ} {tv : TE} {D : Ends} (hi : σ[i]? = some (some (.ref x))) (e : Same S H) (hx : H x = some (.ins C dx fs)) (cl : Cls K C) (na : NoAttr K C f) (len : fs.length < 1000)
    (hv : EvP tv σ S Φ) (k : ∀ y H2, Same H H2 → H2 x = some (.ins C dx fs) → Φ y H2 → D.nx σ (upd H2 x (.ins C dx (putF f y fs)))) : sFld K (tVar i) tv f D σ H := hv H e _ fun y H2 e2 h2 => ⟨_, hi, x, C, dx, fs, rfl, e2 _ _ hx, cl, na, len, k y H2 e2 (e2 _ _ hx) h2⟩
theorem cp_isDay (G : Fc K mg) {n : Int} {H : Hp} : CP (rIsi K) [dayQ K n, is (.ref (cDay K))] H (is (.bl true)) := cp_isi G.c_Day G.ins_Day G.k_Day_Day
theorem sp_needAll {a : Addr} {xs : List V} {ts : List Tr} {H : Hp} (ha : H a = some (.tup xs)) (hx : All2 (tripsQ K ts) xs H) : SP (spNeedAll K) [is (.ref a)] H (is .non) := fun H1 e vs hv Q k => by
  have ev := all2_is (xs := [.ref a]) hv
  subst ev
  exact ⟨a, xs, ts, rfl, e _ _ ha, MonoL.mono e hx, fun H' e' => k _ H' e' rfl⟩
theorem sp_needFew {a : Addr} {n : Int} {xs : List V} {ts : List Tr} {H : Hp} (ha : H a = some (.tup xs)) (hx : All2 (tripsQ K ts) xs H) (hl : ts.length ≤ 31) (hlv : ∀ t ∈ ts, t.leaves < n) (hf : (places ts).length ≤ 8) : SP (spNeedFew K) [dayQ K n, is (.ref a)] H (is .non) := fun H1 e vs hv Q k => by
  cases hv with
  | cons h1 h =>
  have ev := all2_is (xs := [.ref a]) h
  subst ev
  exact ⟨a, _, n, xs, ts, rfl, h1, e _ _ ha, MonoL.mono e hx, hl, hlv, hf, fun H' e' => k _ H' e' rfl⟩
theorem sp_unb {a : Addr} {xs : List V} {ts : List Tr} {H : Hp} (ha : H a = some (.tup xs)) (hx : All2 (tripsQ K ts) xs H) (hl : ts.length ≤ 31) (hb : ∀ z : Str, (ts.filter fun t => decide (t.goal = z)).length = (ts.filter fun t => decide (t.start = z)).length) : SP (spUnb K) [is (.ref a)] H (is .non) := fun H1 e vs hv Q k => by
  have ev := all2_is (xs := [.ref a]) hv
  subst ev
  exact ⟨a, xs, ts, rfl, e _ _ ha, MonoL.mono e hx, hl, hb, fun H' e' => k _ H' e' rfl⟩
theorem ok_Table_init (G : Fc K mg) : Fn R.prog w K mg base 4 (f_Table_init K) (fun vs H Q E => ∃ ws rest, vs = ws ++ rest ∧ ws.length = 2 ∧ rest.length ≤ sizeLine ∧ ∀ p, H p = none → spTabInit K (ws ++ [V.ref p]) (upd H p (.tup rest)) Q E) := by
  refine fnS (sp := spTabInit K) (ps := ["self", "day"]) (pv := "trips") G.d_Table_init sc_Table_init (fun _ _ _ _ _ _ us rest hl => match us, rest, hl with | [_, _], [], _ => rfl | [_, _], _ :: _, _ => rfl) (fun vs H Q E h => h) (fun cdv A outer s H vs Q hr h => ?_)
  obtain ⟨x, dx, a, d, xs, ts, T, rfl, hx, hd, ha, hxs, hp, ok, k⟩ := h
  have nd := sc_Table_init.nd
  have hu := hu_of hr
  refine ⟨_, pss_cons (ps_if (pt_not (pt_val (pe_callB call_isi (by rfl) G.b_isinstance (by decide +kernel) (pa_cons (pv 1) (pa_cons (pe_glob (v := .ref (cDay K)) (by rfl) G.g_Day rfl) pa_nil))))) pss_never pss_nil) <|
    pss_cons (ps_expr (pe_f (ok_need_all G) hr G.g_need_all_trips G.d_need_all_trips.choose_spec.kp (pa_cons (pv 2) pa_nil))) <|
    pss_cons (ps_set (i := 3) nd rfl (Or.inr rfl) pe_dnewK) <|
    pss_cons (ps_for PassesOwn.never rfl (pi_tup (pv 2)) (pg_name (i := 4) nd rfl (Or.inl rfl)) (pss_one (ps_dput hu (pv 3) (pe_fld (pv 4) rfl) (pe_lst (StX.pa_star (pe_dget2 hu (pv 3) (pe_fld (pv 4) rfl) (pe_lst pa_nil) ⟨rfl, rfl, rfl, rfl⟩) (pa_cons (pv 4) pa_nil))) rfl))) <|
    pss_cons (ps_set (i := 5) nd rfl (Or.inl rfl) (pe_callB cr_sortedS (by rfl) G.b_sorted (by decide +kernel) (pa_cons (pe_lock (pe_lc (te := tCB (fun xs H Q => ∃ a, xs = [.str a] ∧ Q (.str a) H) (tCons (tVar 8) tNil)) (own := [("name", 8)]) (g := gName 8) (by rfl) nd (pi_keys (pv 3)) (blkOk_by (own := [("name", 8)]) (N := ["self", "day", "trips", "by_name", "trip", "names", "twice", "place", "name"]) (sc := defScope s_Table_init) (by decide +kernel))
        (fun _ _ _ _ _ => pg_name (i := 8) nd rfl (Or.inl rfl)) (fun _ _ _ _ _ => pts_nil) (fun _ _ _ _ _ => pe_callTy SkE.call_str_str (by rfl) G.b_str (by decide +kernel) (pa_cons (pv 8) pa_nil)))) pa_nil))) <|
    pss_cons (ps_setLc (i := 6) (te := tVar 8) (tt := tTest (tOp (rI0 fun i j => .bl (decide (j < i))) (tCB (rLenQ K) (tCons (tDGet (tVar 3) (tVar 8)) tNil)) (tC (.int 1)))) (own := [("name", 8)]) (g := gName 8) (by rfl) nd rfl rfl (sw_true rfl rfl rfl (by decide +kernel)) (pi_list (pv 5)) (blkOk_by (own := [("name", 8)]) (N := ["self", "day", "trips", "by_name", "trip", "names", "twice", "place", "name"]) (sc := defScope s_Table_init) (by decide +kernel))
        (fun _ _ _ _ _ => pg_name (i := 8) nd rfl (Or.inl rfl)) (fun _ _ _ _ _ => pts_one (pt_cmpR op_gt (pe_callB call_len_seq (by rfl) G.b_len PySem.boot_len (pa_cons (pe_dget hu (pv 3) (pv 8) (fun _ _ => rfl)) pa_nil)) pe_int (nomark _))) (fun _ _ _ _ _ => pv 8)) <|
    pss_cons (ps_if (pt_cmpR op_gt (pe_callB call_len_seq (by rfl) G.b_len PySem.boot_len (pa_cons (pv 6) pa_nil)) pe_int (nomark _)) pss_never pss_nil) <|
    pss_cons (ps_expr (pe_f (ok_need_few G) hr G.g_need_few G.d_need_few.choose_spec.kp (pa_cons (pv 1) (pa_cons (pv 2) pa_nil)))) <|
    pss_cons (ps_set (i := 7) nd rfl (Or.inl rfl) (pe_f (ok_unbalanced G) hr G.g_unbalanced G.d_unbalanced.choose_spec.kp (pa_cons (pv 2) pa_nil))) <|
    pss_cons (ps_if (pt_cmpR op_notN (pv 7) pe_non (nomark _)) pss_never pss_nil) <|
    pss_cons (ps_fld (pv 0) (pv 1) rfl) <|
    pss_cons (ps_fld (pv 0) (pe_callTy call_tupF (by rfl) G.b_tuple (by decide +kernel) (pa_cons (pv 5) pa_nil)) rfl) <|
    pss_cons (ps_fld (pv 0) (pe_callTy call_tuple_of (by rfl) G.b_tuple (by decide +kernel) (pa_cons (pe_f (ok_places_of G) hr G.g_places_of G.d_places_of.choose_spec.kp (pa_cons (pv 2) pa_nil)) pa_nil)) rfl) <|
    pss_one (ps_fld (pv 0) (pe_callTy call_tuple_of (by rfl) G.b_tuple (by decide +kernel) (pa_cons (pe_lc (te := tOp (rIxL K) (tDGet (tVar 3) (tVar 8)) (tC (.int 0))) (own := [("name", 8)]) (g := gName 8) (by rfl) nd (pi_list (pv 5)) (blkOk_by (own := [("name", 8)]) (N := ["self", "day", "trips", "by_name", "trip", "names", "twice", "place", "name"]) (sc := defScope s_Table_init) (by decide +kernel))
        (fun _ _ _ _ _ => pg_name (i := 8) nd rfl (Or.inl rfl)) (fun _ _ _ _ _ => pts_nil) (fun _ _ _ _ _ => pe_ix ix_list (pe_dget hu (pv 3) (pv 8) (fun _ _ => rfl)) pe_int (fun _ _ => rfl))) pa_nil)) rfl), ?_⟩
  have hlt := trips_len hxs
  have hpl := hp.length_eq
  have hl31 : ts.length ≤ 31 := by rw [hpl]; exact ok.len
  have hnames : (ts.map (·.name)).Perm T.names := hp.map _
  have hnd : (ts.map (·.name)).Nodup := hnames.nodup_iff.mpr (strict_nd ok.srt)
  have hsort : sortT (ts.map (·.name)) = T.names := sortT_of_strict ok.srt hnames.symm
  refine s_skip (et_not (b := true) (et_B (ev_cb (ea_cons (ev_var (Φ := dayQ K T.day) (v := d) rfl hd) (ea_cons ev_k ea_nil)) (cp_isDay G)))) fun H1 e1 => ?_
  refine EvP.run (ev_f (ea_cons (ev_v (v := .ref a) rfl) ea_nil) (sp_needAll (e1 _ _ ha) (MonoL.mono e1 hxs))) fun _ H2 e2 _ => ?_
  have e02 := e1.trans e2
  intro b hb
  -- by_name
  refine ⟨_, rfl, a, rfl, ⟨xs, SqT.of (same_new hb _ _ (e02 _ _ ha))⟩, ?_⟩
  refine for_it (walk_tup (K := K) (a := a) (xs := xs)) (fun n σ H' => Same H2 H' ∧ (∃ s4, σ = [some (.ref x), some d, some (.ref a), some (.ref b), s4, none, none, none, none]) ∧ ∃ ls : List Addr, ls.length = n ∧ H' b = some (.dK (inrs (((ts.map (·.name)).take n).zip (ls.map V.ref)))) ∧ ∀ j l, ls[j]? = some l → ∃ v, xs[j]? = some v ∧ H' l = some (.lst [v])) ⟨same_new hb, ⟨_, rfl⟩, [], rfl, upd_same, fun j l h => nil_get h⟩ (fun i σ H' _ p => SqT.of (p.1 _ _ (e02 _ _ ha))) ?_ ?_
  · rintro n v σ H3 H4 hn ⟨e3, ⟨s4, rfl⟩, ls, hls, hb3, hl3⟩ ⟨rfl, hv⟩
    obtain ⟨ht, ht2⟩ := trips_at hxs hv
    generalize htt : ts.getD n default = t at ht ht2
    have ht3 : tripQ K t v H4 := Mono.mono (e02.trans e3) ht
    have hvar : EvP (tVar 4) [some (.ref x), some d, some (.ref a), some (.ref b), some v, none, none, none, none] H4 (tripQ K t) := ev_var rfl ht3
    have hnone : valV (inrs (((ts.map (·.name)).take n).zip (ls.map V.ref))) (Sum.inr t.name : Key) = none := by
      refine valV_none ?_
      rw [inrs_fst, zip_fst (by rw [List.length_take, List.length_map, List.length_map, hls]; omega)]
      intro hm
      obtain ⟨q, hq, e⟩ := List.mem_map.mp hm
      have hqt : q = t.name := by injection e
      subst hqt
      obtain ⟨j, hj⟩ := List.getElem?_of_mem hq
      have hjn : j < n := by
        have := (List.getElem?_eq_some_iff.mp hj).1
        rw [List.length_take] at this
        omega
      rw [List.getElem?_take_of_lt hjn] at hj
      have hn2 : (ts.map (·.name))[n]? = some t.name := by rw [List.getElem?_map, ht2]; rfl
      exact absurd (nodup_ix hnd hj hn2) (by omega)
    -- [*by_name.get(trip.name, []), trip]
    refine ⟨_, rfl, b, rfl, .inl ⟨_, .inl hb3⟩, ?_⟩
    refine EvP.run (ev_tname G hvar) fun nm H5 e5 hnm => ?_
    cases hnm
    refine ⟨by decide, fun p hp5 => ?_⟩
    refine ⟨_, DGet.k (k := Sum.inr t.name) (same_new hp5 _ _ (e5 _ _ hb3)), ?_⟩
    rw [hnone]
    refine ⟨p, [], rfl, .inr (SqL.of upd_same), _, rfl, by show 1 ≤ sizeLine; decide, fun l hl => ?_⟩
    have e6 : Same H4 (upd (upd H5 p (.lst [])) l (.lst [v])) := (e5.trans (same_new hp5)).trans (same_new hl)
    refine ⟨_, rfl, ?_⟩
    refine EvP.run (EvP.mono e6 (ev_tname G hvar)) fun nm H7 e7 hnm => ?_
    cases hnm
    have e47 := e6.trans e7
    have nlb : l ≠ b := (ne_of_none (same_new hp5 _ _ (e5 _ _ hb3)) hl).symm
    refine ⟨b, _, rfl, DPut.k (k := Sum.inr t.name) (e47 _ _ hb3) ?_, same_mut (e3.trans e47) hb, ⟨_, rfl⟩, ls ++ [l], by rw [List.length_append, hls]; rfl, ?_, fun j q hq => ?_⟩
    · rw [List.length_map, List.length_zip, List.length_take, List.length_map]
      exact small1000 (by omega)
    · have hlen : ls.length = n := hls
      have e1 : ((ts.map (·.name)).take (n + 1)) = (ts.map (·.name)).take n ++ [t.name] := by rw [List.take_succ, List.getElem?_map, ht2]; rfl
      rw [upd_same, putK_new _ hnone, e1, List.map_append, List.zip_append (by rw [List.length_take, List.length_map, List.length_map, hls]; omega)]
      unfold inrs
      rw [List.map_append]
      rfl
    · by_cases hjn : j < n
      · rw [List.getElem?_append_left (by omega)] at hq
        obtain ⟨v', hv1, hv2⟩ := hl3 j q hq
        refine ⟨v', hv1, ?_⟩
        rw [upd_ne (by rintro rfl; rw [hv2] at hb3; cases hb3)]
        exact e47 _ _ hv2
      · have hjl := (List.getElem?_eq_some_iff.mp hq).1
        rw [List.length_append] at hjl
        have : j = ls.length := by have : ([l] : List Addr).length = 1 := rfl; omega
        subst this
        rw [List.getElem?_append_right (Nat.le_refl _), Nat.sub_self] at hq
        cases hq
        refine ⟨v, by rw [hls]; exact hv, ?_⟩
        rw [upd_ne nlb]
        exact e7 _ _ upd_same
  · rintro σ H3 ⟨e3, ⟨s4, rfl⟩, ls, hls, hb3, hl3⟩
    have hxl : xs.length = (ts.map (·.name)).length := by rw [hlt, List.length_map]
    rw [hxl, List.take_length] at hb3
    have hll : (ts.map (·.name)).length = (ls.map V.ref).length := by rw [List.length_map, List.length_map, hls, hlt]
    have hkl : ((ts.map (·.name)).zip (ls.map V.ref)).length ≤ 1000 := by rw [List.length_zip, List.length_map]; omega
    -- names
    have hkeys := ev_keysStr (σ := [some (.ref x), some d, some (.ref a), some (.ref b), s4, none, none, none, none]) (i := 3) (j := 8) rfl rfl (by show 8 < 9; omega) hb3 hkl
    rw [map_zip_fst hll] at hkeys
    have hnm := ev_cb (ea_cons hkeys ea_nil) (cp_sorted (K := K) (by rw [List.length_map]; omega))
    rw [hsort] at hnm
    refine s_set hnm fun v4 H4 e4 hv4 => ?_
    obtain ⟨l5, ns, rfl, hl5, hns⟩ := hv4
    rw [txQ_all hns] at hl5
    have hTl : T.names.length = ts.length := by unfold Tb.names; rw [List.length_map, hpl]
    -- a name's list
    have find : ∀ (j : Nat) (u : Tr), T.rows[j]? = some u → ∃ l v, valV (inrs ((ts.map (·.name)).zip (ls.map V.ref))) (Sum.inr u.name : Key) = some (.ref l) ∧ H3 l = some (.lst [v]) ∧ tripQ K u v H3 := by
      intro j u hu2
      obtain ⟨i, hi⟩ := List.getElem?_of_mem (hp.mem_iff.mpr (List.mem_of_getElem? hu2))
      have hil : i < ts.length := (List.getElem?_eq_some_iff.mp hi).1
      have hki : (ts.map (·.name))[i]? = some u.name := by rw [List.getElem?_map, hi]; rfl
      obtain ⟨l, hl⟩ : ∃ l, ls[i]? = some l := ⟨ls[i]'(by omega), List.getElem?_eq_getElem _⟩
      obtain ⟨v, hv, hv2⟩ := hl3 i l hl
      obtain ⟨ht, ht2⟩ := trips_at hxs hv
      rw [hi] at ht2
      have : u = ts.getD i default := Option.some.inj ht2
      refine ⟨l, v, find_zip hnd hki (by rw [List.getElem?_map, hl]; rfl), hv2, ?_⟩
      rw [this]
      exact Mono.mono (e02.trans e3) ht
    -- twice
    have htw := ev_lcL (K := K) (σ := [some (.ref x), some d, some (.ref a), some (.ref b), s4, some (.ref l5), none, none, none]) (H := H4) (g := gName 8) (vs := [8]) (te := tVar 8) (tt := tTest (tOp (rI0 fun i j => .bl (decide (j < i))) (tCB (rLenQ K) (tCons (tDGet (tVar 3) (tVar 8)) tNil)) (tC (.int 1)))) (ei_lst (K := K) (te := tVar 5) (ev_v rfl) hl5) (fun _ => false) (fun _ => is .non) (by rw [List.length_map]; omega) fun j z hj => by
        rw [List.getElem?_map] at hj
        unfold Tb.names at hj
        rw [List.getElem?_map] at hj
        cases hu2 : T.rows[j]? with
        | none => rw [hu2] at hj; cases hj
        | some u =>
          rw [hu2] at hj
          cases hj
          obtain ⟨l, v, h1, h2, h3⟩ := find j u hu2
          refine ⟨[some (.ref x), some d, some (.ref a), some (.ref b), s4, some (.ref l5), none, none, some (.str u.name)], rfl, fun H' R hR => hR, ?_, fun z => by cases z⟩
          have g := ev_dget (σ := [some (.ref x), some d, some (.ref a), some (.ref b), s4, some (.ref l5), none, none, some (.str u.name)]) (te := tVar 3) (ts := tVar 8) (Φ := is (.ref l)) (e4 _ _ hb3) (ev_v rfl) (ev_v rfl) h1 rfl
          exact et_test (ev_op (ev_cb (ea_cons g ea_nil) (cp_len (K := K) (e4 _ _ h2))) (ev_k (v := .int 1)) (rp_I0 (g := fun i j => .bl (decide (j < i)))))
    rw [keptQ_none fun _ _ => rfl] at htw
    refine s_set htw fun v5 H5 e5 hv5 => ?_
    obtain ⟨l6, rfl, hl6⟩ := lst_nil hv5 rfl
    refine s_skip (et_test (ev_op (ev_cb (ea_cons (ev_v (i := 6) rfl) ea_nil) (cp_len (K := K) hl6)) (ev_k (v := .int 0)) (rp_I0 (g := fun i j => .bl (decide (j < i)))))) fun H6 e6 => ?_
    have e06 := (((e02.trans e3).trans e4).trans e5).trans e6
    refine EvP.run (ev_f (ea_cons (ev_var (Φ := dayQ K T.day) (v := d) rfl (Mono.mono e06 hd)) (ea_cons (ev_v (v := .ref a) rfl) ea_nil)) (sp_needFew (e06 _ _ ha) (MonoL.mono e06 hxs) hl31 (fun t ht => ok.lv t (hp.mem_iff.mp ht)) (by rw [places_perm hp]; exact ok.few))) fun _ H7 e7 _ => ?_
    have e07 := e06.trans e7
    refine s_set (ev_f (ea_cons (ev_v (v := .ref a) rfl) ea_nil) (sp_unb (e07 _ _ ha) (MonoL.mono e07 hxs) hl31 (fun z => by
      rw [(hp.filter _).length_eq, (hp.filter _).length_eq]
      exact ok.bal z))) fun v8 H8 e8 hv8 => ?_
    cases hv8
    refine s_skip (et_test (ev_op (ev_v (i := 7) rfl) (ev_k (v := .non)) rp_notN)) fun H9 e9 => ?_
    have e49 := (((e5.trans e6).trans e7).trans e8).trans e9
    have e39 := e4.trans e49
    have e09 := (e02.trans e3).trans e39
    have hx9 := e09 _ _ hx
    have q1 := dropX_ins hx9 (by show 1 ≠ 0; omega) (Mono.mono e09 hd)
    have q2 := dropX_tup hx9 (e09 _ _ ha)
    have q3 : All2 (tripsQ K ts) xs (dropX x H9) := dropX_trips hx9 (by show 0 < 5; omega) (MonoL.mono e09 hxs)
    have q4 := dropX_lst hx9 (e49 _ _ hl5)
    have q5 := dropX_dK hx9 (e39 _ _ hb3)
    have sN : dropX x H9 x = none := dropX_x
    refine s_fldQ (S := dropX x H9) rfl dropX_same hx9 G.c_Table G.n_Table_day pl0 (ev_var (Φ := dayQ K T.day) (v := d) rfl q1) fun y1 H10 e10 h10 p1 => ?_
    have f1 := same_mut (o := .ins (cTable K) dx (putF "day" y1 [])) (dropX_same.trans e10) sN
    refine s_fldQ (S := dropX x H9) rfl f1 upd_same G.c_Table G.n_Table_names pq1 (ev_cb (ea_cons (ev_var (Φ := lstQ (txQ T.names)) (v := .ref l5) rfl ⟨l5, _, rfl, q4, all_txQ⟩) ea_nil) cp_tupF) fun y2 H11 e11 h11 p2 => ?_
    have f2 := same_mut (o := .ins (cTable K) dx (putF "names" y2 (putF "day" y1 []))) (f1.trans e11) sN
    refine s_fldQ (S := dropX x H9) rfl f2 upd_same G.c_Table G.n_Table_places pq2 (ev_cb (ea_cons (ev_f (ea_cons (ev_v (v := .ref a) rfl) ea_nil) (sp_places q2 q3 hl31)) ea_nil) cp_tuple) fun y3 H12 e12 h12 p3 => ?_
    have f3 := same_mut (o := .ins (cTable K) dx (putF "places" y3 (putF "names" y2 (putF "day" y1 [])))) (f2.trans e12) sN
    have hrw := ev_lcL (K := K) (σ := [some (.ref x), some d, some (.ref a), some (.ref b), s4, some (.ref l5), some (.ref l6), some .non, none]) (H := dropX x H9) (g := gName 8) (vs := [8]) (te := tOp (rIxL K) (tDGet (tVar 3) (tVar 8)) (tC (.int 0))) (tt := tYes) (ei_lst (K := K) (te := tVar 5) (ev_v rfl) q4) (fun _ => true) (fun j => tripQ K (T.rows.getD j default)) (by rw [List.length_map]; omega) fun j z hj => by
        rw [List.getElem?_map] at hj
        unfold Tb.names at hj
        rw [List.getElem?_map] at hj
        cases hu2 : T.rows[j]? with
        | none => rw [hu2] at hj; cases hj
        | some u =>
          rw [hu2] at hj
          cases hj
          obtain ⟨l, v, h1, h2, h3⟩ := find j u hu2
          have hgd : T.rows.getD j default = u := by rw [List.getD_eq_getElem?_getD, hu2]; rfl
          refine ⟨[some (.ref x), some d, some (.ref a), some (.ref b), s4, some (.ref l5), some (.ref l6), some .non, some (.str u.name)], rfl, fun H' R hR => hR, et_yes, fun _ => ?_⟩
          have g := ev_dget (σ := [some (.ref x), some d, some (.ref a), some (.ref b), s4, some (.ref l5), some (.ref l6), some .non, some (.str u.name)]) (te := tVar 3) (ts := tVar 8) (Φ := is (.ref l)) q5 (ev_v rfl) (ev_v rfl) h1 rfl
          have r1 := dropX_lst hx9 (e39 _ _ h2)
          have r2 : tripQ K u v (dropX x H9) := dropX_ins hx9 (by show 5 ≠ 0; omega) (Mono.mono e39 h3)
          rw [hgd]
          exact ev_weak (ev_op g (ev_k (v := .int 0)) (rp_ixL r1 rfl)) r2
    rw [show keptQ (fun _ => true) (fun j => tripQ K (T.rows.getD j default)) (T.names.map V.str).length = tripsQ K T.rows by
      unfold Tb.names
      rw [List.length_map, List.length_map]
      exact range_map1 T.rows default (tripQ K)] at hrw
    refine s_fldQ1 (S := dropX x H9) rfl f3 upd_same G.c_Table G.n_Table_rows pq3 (ev_cb (ea_cons hrw ea_nil) cp_tuple) fun y4 H13 e13 h13 p4 => ?_
    have k10 : KeepX x H10 H11 := KeepX.trans (KeepX.put KeepX.refl) (Same.keepX e11)
    have k11 : KeepX x H11 H12 := KeepX.trans (KeepX.put KeepX.refl) (Same.keepX e12)
    have k12 : KeepX x H12 H13 := KeepX.trans (KeepX.put KeepX.refl) (Same.keepX e13)
    have k13 : KeepX x H13 (upd H13 x (.ins (cTable K) dx (putF "rows" y4 (putF "places" y3 (putF "names" y2 (putF "day" y1 [])))))) := KeepX.put KeepX.refl
    have g1 : dayQ K T.day y1 (dropX x H10) := dropX_ins h10 (by show 1 ≠ 0; omega) p1
    have g2 := dropX_txsF h11 p2
    have g3 := dropX_txs h12 p3
    rw [places_perm hp] at g3
    have g4 := dropX_rows (K := K) h13 (Nat.lt_of_lt_of_le (pl1 (pl1 (pl1 (n := 1) (by decide)))) (by decide)) p4
    have d1 := dropX_keep (((k10.trans k11).trans k12).trans k13)
    have d2 := dropX_keep ((k11.trans k12).trans k13)
    have d3 := dropX_keep (k12.trans k13)
    have d4 := dropX_keep k13
    refine k _ ((((Same.keepX (e09.trans e10)).trans k10).trans k11).trans (k12.trans k13)) ⟨dx, y1, y2, y3, y4, ?_, Mono.mono d1 g1, Mono.mono d2 g2, Mono.mono d3 g3, Mono.mono d4 g4⟩
    rw [upd_same, flds4]
end
end K22

set_option Elab.async false
set_option linter.all false
set_option pp.maxSteps 400
set_option maxRecDepth 100000
set_option maxHeartbeats 4000000
/-! C10: tables: the short methods. -/
namespace K22
open PySem PySem.Spec PyProof.Rows L2
section
variable {K : PySem.W.Frag} {H : Hp} {σ : L2.St} {te : TE} {t : TA}
theorem all2_cons {Φ : VQ} {Φs : List VQ} {vs : List V} {H : Hp} (h : All2 (Φ :: Φs) vs H) : ∃ v ws, vs = v :: ws ∧ Φ v H ∧ All2 Φs ws H := by
  cases h with
  | cons a r => exact ⟨_, _, rfl, a, r⟩
theorem cp_isiRow {a : Addr} {xs : List V} (ha : H a = some (.lst xs)) : CP (rIsiT K) [is (.ref a), tupQ [is (.ty "list"), is (.ty "tuple")]] H (is (.bl true)) := fun H1 e vs hv Q k => by
  obtain ⟨_, _, rfl, rfl, h2⟩ := all2_cons hv
  obtain ⟨_, _, rfl, ⟨T, us, rfl, hT, hu⟩, h3⟩ := all2_cons h2
  cases h3
  have ev := all2_is (xs := [.ty "list", .ty "tuple"]) hu
  subst ev
  exact ⟨_, T, _, .type "list", _, true, rfl, hT, .cons (.ty "list") (.cons (.ty "tuple") .nil), .base (.lst (e _ _ ha)), kitAny_cons (b := true) (kit_ty (by decide +kernel)) (fun z => nomatch z) (fun _ => rfl), k _ H1 (Same.refl _) rfl⟩
theorem ea_starT {Φs As : List VQ} [m : MonoL Φs] (he : EvP te σ H (tupQ Φs)) (ht : EaP t σ H As) : EaP (StX.tStar K te t) σ H (Φs ++ As) := fun H1 e Q k =>
  he H1 e _ fun v H2 e2 ⟨a, xs, hv, ha, hx⟩ => ⟨a, xs, hv, .inl (SqT.of ha), ht H2 (e.trans e2) _ fun ys H3 e3 hy => k _ H3 (e2.trans e3) ((m.mono e3 hx).app hy)⟩
theorem ea_starL {Φs As : List VQ} [m : MonoL Φs] (he : EvP te σ H (lstQ Φs)) (ht : EaP t σ H As) : EaP (StX.tStar K te t) σ H (Φs ++ As) := fun H1 e Q k =>
  he H1 e _ fun v H2 e2 ⟨a, xs, hv, ha, hx⟩ => ⟨a, xs, hv, .inr (SqL.of ha), ht H2 (e.trans e2) _ fun ys H3 e3 hy => k _ H3 (e2.trans e3) ((m.mono e3 hx).app hy)⟩
/-- a table, its rows at addresses -/
def tabR (K : PySem.W.Frag) (n : Int) (ps : List (Addr × Tr)) : VQ := fun v H => ∃ x dx d nm pl rw, v = .ref x ∧ H x = some (.ins (cTable K) dx [("day", d), ("names", nm), ("places", pl), ("rows", rw)]) ∧ dayQ K n d H ∧ tupF (txQ ((trs ps).map (·.name))) nm H ∧ tupQ (txQ (places (trs ps))) pl H ∧ tupQ (prsQ K ps) rw H
instance {n : Int} {ps : List (Addr × Tr)} : Stab (tabR K n ps) := ⟨fun e ⟨x, dx, d, nm, pl, rw, hv, h1, h2, h3, h4, h5⟩ => ⟨x, dx, d, nm, pl, rw, hv, e.ins h1, Stab.st e h2, Stab.st e h3, Stab.st e h4, Stab.st e h5⟩⟩
theorem tab_R {T : Tb} {v : V} (h : tabQ K T v H) : ∃ ps, T = ⟨T.day, trs ps⟩ ∧ tabR K T.day ps v H := by
  obtain ⟨x, rfl, dx, d, nm, pl, rw, h1, h2, h3, h4, a, vs, rfl, h5, h6⟩ := h
  obtain ⟨ps, e, hp⟩ := trips_prs h6
  obtain ⟨n, ts⟩ := T
  cases (e : ts = trs ps)
  exact ⟨ps, rfl, x, dx, d, nm, pl, _, rfl, h1, h2, h3, h4, a, vs, rfl, h5, hp⟩
theorem R_tab {n : Int} {ps : List (Addr × Tr)} {v : V} (h : tabR K n ps v H) : tabQ K ⟨n, trs ps⟩ v H := by
  obtain ⟨x, dx, d, nm, pl, rw, rfl, h1, h2, h3, h4, a, vs, rfl, h5, h6⟩ := h
  exact ⟨x, rfl, dx, d, nm, pl, _, h1, h2, h3, h4, a, vs, rfl, h5, prs_trips h6⟩
section
variable {mg : Str → Option Value} {n : Int} {ps : List (Addr × Tr)}
theorem ev_tabday (G : Fc K mg) (h : EvP te σ H (tabR K n ps)) : EvP (tFld K te "day") σ H (dayQ K n) := fun H1 e Q k => h H1 e _ fun v H2 e2 ⟨x, dx, d, nm, pl, rw, hv, h1, h2, h3, h4, h5⟩ => ⟨x, _, dx, _, d, hv, h1, G.c_Table, G.n_Table_day, rfl, k _ H2 e2 h2⟩
theorem ev_tabnames (G : Fc K mg) (h : EvP te σ H (tabR K n ps)) : EvP (tFld K te "names") σ H (tupF (txQ ((trs ps).map (·.name)))) := fun H1 e Q k => h H1 e _ fun v H2 e2 ⟨x, dx, d, nm, pl, rw, hv, h1, h2, h3, h4, h5⟩ => ⟨x, _, dx, _, nm, hv, h1, G.c_Table, G.n_Table_names, rfl, k _ H2 e2 h3⟩
theorem ev_tabplaces (G : Fc K mg) (h : EvP te σ H (tabR K n ps)) : EvP (tFld K te "places") σ H (tupQ (txQ (places (trs ps)))) := fun H1 e Q k => h H1 e _ fun v H2 e2 ⟨x, dx, d, nm, pl, rw, hv, h1, h2, h3, h4, h5⟩ => ⟨x, _, dx, _, pl, hv, h1, G.c_Table, G.n_Table_places, rfl, k _ H2 e2 h4⟩
theorem ev_tabrows (G : Fc K mg) (h : EvP te σ H (tabR K n ps)) : EvP (tFld K te "rows") σ H (tupQ (prsQ K ps)) := fun H1 e Q k => h H1 e _ fun v H2 e2 ⟨x, dx, d, nm, pl, rw, hv, h1, h2, h3, h4, h5⟩ => ⟨x, _, dx, _, rw, hv, h1, G.c_Table, G.n_Table_rows, rfl, k _ H2 e2 h5⟩
end
/-- what Table(day, *trips) asks -/
def spTI (K : PySem.W.Frag) : Sp := fun vs H Q E => ∃ ws rest, vs = ws ++ rest ∧ ws.length = 2 ∧ rest.length ≤ sizeLine ∧ ∀ p, H p = none → spTabInit K (ws ++ [V.ref p]) (upd H p (.tup rest)) Q E
theorem mk_table {ts : List Tr} {T : Tb} (hp : ts.Perm T.rows) (ok : T.Ok) : MkP (spTI K) (cTable K) (dayQ K T.day :: tripsQ K ts) H (tabQ K T) := by
  intro H1 e vs hv x dx hx hd hne Q k
  obtain ⟨d, rest, rfl, h1, h2⟩ := all2_cons hv
  have hlen := trips_len h2
  have e1 : Same H1 (upd (upd H1 dx (.own x)) x (.ins (cTable K) dx [])) := (same_new hd).trans (same_new (by rw [upd_ne hne.symm]; exact hx))
  refine ⟨[.ref x, d], rest, rfl, rfl, Nat.le_trans (m := 31) (by rw [hlen, hp.length_eq]; exact ok.len) (by decide), fun p hp0 => ?_⟩
  have e2 := same_new (o := .tup rest) hp0
  refine ⟨x, dx, p, d, rest, ts, T, rfl, e2 _ _ upd_same, Mono.mono (e1.trans e2) h1, upd_same, MonoL.mono (e1.trans e2) h2, hp, ok, fun H' kp ht => ⟨rfl, ?_⟩⟩
  exact k H' (KeepX.new hx hd (KeepX.trans (Same.keepX e2) kp)) ⟨x, rfl, ht⟩
end
section
variable {w : World} {K : PySem.W.Frag} {mg : Str → Option Value} {base : Heap}
def spIsRow : Sp := fun vs H Q _ => ∃ (a : Addr) (xs : List V), vs = [.ref a] ∧ H a = some (.lst xs) ∧ ∀ H', Same H H' → Q (.bl true) H'
theorem sc_is_row : FnScope ["value"] ["value"] (defScope s_is_row) := ⟨rfl, rfl, rfl, by decide +kernel, rfl, by decide +kernel, by decide +kernel⟩
theorem ok_is_row (G : Fc K mg) : Fn R.prog w K mg base 1 (f_is_row K) spIsRow := by
  refine fnA G.d_is_row sc_is_row (fun _ _ _ _ _ _ us hl => match us, hl with | [_], _ => rfl) (fun vs H Q h => ?_) (fun vs H Q E h => h) (fun cdv A outer s H vs Q hr h => ?_)
  · obtain ⟨a, xs, rfl, _⟩ := h
    rfl
  · obtain ⟨a, xs, rfl, ha, k⟩ := h
    refine ⟨_, pss_one (ps_ret (pe_callB call_isiT (by rfl) G.b_isinstance (by decide +kernel) (pa_cons (pv 0) (pa_cons (pe_tup (pa_cons (pe_bltn (v := .ty "list") (by rfl) G.b_list (by decide +kernel) rfl) (pa_cons (pe_bltn (v := .ty "tuple") (by rfl) G.b_tuple (by decide +kernel) rfl) pa_nil))) pa_nil)))), ?_⟩
    refine s_ret (ev_cb (ea_cons (ev_v (v := .ref a) rfl) (ea_cons (ev_tup (ea_cons ev_k (ea_cons ev_k ea_nil))) ea_nil)) (cp_isiRow ha)) fun v H2 e2 hv => ?_
    cases hv
    exact k H2 e2
def spTabOf (K : PySem.W.Frag) : Sp := fun vs H Q _ => ∃ (d : V) (a : Addr) (xs : List V) (ts : List Tr) (T : Tb), vs = [d, .ref a] ∧ dayQ K T.day d H ∧ H a = some (.lst xs) ∧ All2 (tripsQ K ts) xs H ∧ ts.Perm T.rows ∧ T.Ok ∧ ∀ v H', Same H H' → tabQ K T v H' → Q v H'
theorem sc_Table_of : FnScope ["day", "trips"] ["day", "trips"] (defScope s_Table_of) := ⟨rfl, rfl, rfl, by decide +kernel, rfl, by decide +kernel, by decide +kernel⟩
theorem sp_isRow {a : Addr} {xs : List V} {H : Hp} (ha : H a = some (.lst xs)) : SP spIsRow [is (.ref a)] H (is (.bl true)) := fun H1 e vs hv Q k => by
  have ev := all2_is (xs := [.ref a]) hv
  subst ev
  exact ⟨a, xs, rfl, e _ _ ha, fun H' e' => k _ H' e' rfl⟩
theorem ok_Table_of (G : Fc K mg) : Fn R.prog w K mg base 6 (f_Table_of K) (spTabOf K) := by
  refine fnA G.d_Table_of sc_Table_of (fun _ _ _ _ _ _ us hl => match us, hl with | [_, _], _ => rfl) (fun vs H Q h => ?_) (fun vs H Q E h => h) (fun cdv A outer s H vs Q hr h => ?_)
  · obtain ⟨d, a, xs, ts, T, rfl, _⟩ := h
    rfl
  · obtain ⟨d, a, xs, ts, T, rfl, hd, ha, hx, hp, ok, k⟩ := h
    refine ⟨_, pss_cons (ps_if (pt_not (pt_val (pe_callB call_isi (by rfl) G.b_isinstance (by decide +kernel) (pa_cons (pv 0) (pa_cons (pe_glob (v := .ref (cDay K)) (by rfl) G.g_Day rfl) pa_nil))))) pss_never pss_nil) <|
      pss_cons (ps_if (pt_not (pt_val (pe_f (ok_is_row G) hr G.g_is_row G.d_is_row.choose_spec.kp (pa_cons (pv 1) pa_nil)))) pss_never pss_nil) <|
      pss_one (ps_ret (pe_mkS G.m_Table (ok_Table_init G) hr G.g_Table (pa_cons (pv 0) (StX.pa_star (pv 1) pa_nil)))), ?_⟩
    refine s_skip (et_not (b := true) (et_B (ev_cb (ea_cons (ev_var (Φ := dayQ K T.day) (v := d) rfl hd) (ea_cons ev_k ea_nil)) (cp_isDay G)))) fun H1 e1 => ?_
    refine s_skip (et_not (b := true) (et_B (ev_f (ea_cons (ev_v (v := .ref a) rfl) ea_nil) (sp_isRow (e1 _ _ ha))))) fun H2 e2 => ?_
    have e02 := e1.trans e2
    have h0 : EvP (tVar 0) (start ["day", "trips"] [d, .ref a]) H2 (dayQ K T.day) := ev_var rfl (Mono.mono e02 hd)
    have h1 : EvP (tVar 1) (start ["day", "trips"] [d, .ref a]) H2 (lstQ (tripsQ K ts)) := ev_var rfl ⟨a, xs, rfl, e02 _ _ ha, MonoL.mono e02 hx⟩
    refine s_ret (ev_mk (ea_cons h0 (ea_starL h1 ea_nil)) (by rw [List.append_nil]; exact mk_table hp ok)) fun v H3 e3 hv => k v H3 (e02.trans e3) hv
end
end K22

set_option Elab.async false
set_option linter.all false
set_option pp.maxSteps 400
set_option maxRecDepth 100000
set_option maxHeartbeats 4000000
/-! C11: tables: asked for names. -/
namespace K22
open PySem PySem.Spec PyProof.Rows L2
section
variable {K : PySem.W.Frag} {H : Hp} {σ : L2.St} {te : TE} {t : TA}
theorem inV_dec {z : Str} {cs : List Str} : inV (.str z) (cs.map V.str) = decide (z ∈ cs) := by
  by_cases h : z ∈ cs
  · rw [inV_str h, decide_eq_true h]
  · rw [decide_eq_false h]
    unfold inV
    refine Bool.eq_false_iff.mpr fun q => ?_
    obtain ⟨y, hy, e⟩ := List.any_eq_true.mp q
    obtain ⟨c, hc, rfl⟩ := List.mem_map.mp hy
    have : c = z := by simpa [eqV] using e
    exact h (this ▸ hc)
theorem rp_inTx {neg : Bool} {z : Str} {cs : List Str} : RP (rIn K neg) (is (.str z)) (tupF (txQ cs)) H (is (.bl (if neg then !decide (z ∈ cs) else decide (z ∈ cs)))) := fun H1 e a b h1 ⟨p, o, vs, hb, _, hp, hv⟩ Q k => by
  cases h1
  rw [txQ_all hv] at hp
  refine ⟨p, _, hb, .inr (SqT.frz hp), rfl, flat_strs, ?_⟩
  rw [inV_dec]
  exact k _ H1 (Same.refl H1) rfl
end
section
variable {w : World} {K : PySem.W.Frag} {mg : Str → Option Value} {base : Heap}
/-! ### days compared -/
def spDayEq2 (K : PySem.W.Frag) : Sp := fun vs H Q _ => ∃ (x y : V) (n m : Int), vs = [x, y] ∧ dayQ K n x H ∧ dayQ K m y H ∧ ∀ H', Same H H' → Q (.bl (decide (n = m))) H'
theorem sc_Day_eq : FnScope ["self", "other"] ["self", "other"] (defScope s_Day_eq) := ⟨rfl, rfl, rfl, by decide +kernel, rfl, by decide +kernel, by decide +kernel⟩
theorem ok_Day_eq (G : Fc K mg) : Fn R.prog w K mg base 1 (f_Day_eq K) (spDayEq2 K) := by
  refine fnA G.d_Day_eq sc_Day_eq (fun _ _ _ _ _ _ us hl => match us, hl with | [_, _], _ => rfl) (fun vs H Q h => ?_) (fun vs H Q E h => h) (fun cdv A outer s H vs Q hr h => ?_)
  · obtain ⟨x, y, n, m, rfl, _⟩ := h
    rfl
  · obtain ⟨x, y, n, m, rfl, hx, hy, k⟩ := h
    refine ⟨_, pss_one (ps_ret (pe_and (pe_callB call_isi (by rfl) G.b_isinstance (by decide +kernel) (pa_cons (pv 1) (pa_cons (pe_glob (v := .ref (cDay K)) (by rfl) G.g_Day rfl) pa_nil))) (pe_one (pe_cmpR op_eq (pe_fld (pv 0) rfl) (pe_fld (pv 1) rfl) (nomark _))))), ?_⟩
    have h0 : EvP (tVar 0) (start ["self", "other"] [x, y]) H (dayQ K n) := ev_var rfl hx
    have h1 : EvP (tVar 1) (start ["self", "other"] [x, y]) H (dayQ K m) := ev_var rfl hy
    refine s_ret (ev_andV (ev_cb (ea_cons h1 (ea_cons ev_k ea_nil)) (cp_isDay G)) fun _ => ev_op (ev_fld h0 G.c_Day G.n_Day_length rfl) (ev_fld h1 G.c_Day G.n_Day_length rfl) (rp_eq rfl)) fun v H2 e2 hv => ?_
    cases hv
    have e : decide (V.int n = V.int m) = decide (n = m) := decide_eq_decide.mpr ⟨fun h => by injection h, fun h => by rw [h]⟩
    rw [e]
    exact k H2 e2
/-! ### in -/
def pnames (ps : List (Addr × Tr)) : List Str := (trs ps).map (·.name)
def spIn (K : PySem.W.Frag) : Sp := fun vs H Q _ => ∃ (x : V) (n : Int) (ps : List (Addr × Tr)) (z : Str), vs = [x, .str z] ∧ tabR K n ps x H ∧ ∀ H', Same H H' → Q (.bl (decide (z ∈ pnames ps))) H'
theorem sc_Table_contains : FnScope ["self", "x"] ["self", "x"] (defScope s_Table_contains) := ⟨rfl, rfl, rfl, by decide +kernel, rfl, by decide +kernel, by decide +kernel⟩
theorem ok_Table_contains (G : Fc K mg) : Fn R.prog w K mg base 1 (f_Table_contains K) (spIn K) := by
  refine fnA G.d_Table_contains sc_Table_contains (fun _ _ _ _ _ _ us hl => match us, hl with | [_, _], _ => rfl) (fun vs H Q h => ?_) (fun vs H Q E h => h) (fun cdv A outer s H vs Q hr h => ?_)
  · obtain ⟨x, n, ps, z, rfl, _⟩ := h
    rfl
  · obtain ⟨x, n, ps, z, rfl, hx, k⟩ := h
    refine ⟨_, pss_one (ps_ret (pe_and (pe_callB call_isi (by rfl) G.b_isinstance (by decide +kernel) (pa_cons (pv 1) (pa_cons (pe_bltn (v := .ty "str") (by rfl) G.b_str (by decide +kernel) rfl) pa_nil))) (pe_one (pe_cmpR op_in_seq (pv 1) (pe_fld (pv 0) rfl) (by rfl))))), ?_⟩
    have h0 : EvP (tVar 0) (start ["self", "x"] [x, .str z]) H (tabR K n ps) := ev_var rfl hx
    refine s_ret (ev_andV (ev_cb (ea_cons (ev_v rfl) (ea_cons ev_k ea_nil)) cp_isiStr) fun _ => ev_op (ev_v (i := 1) rfl) (ev_tabnames G h0) (rp_inTx (neg := false))) fun v H2 e2 hv => ?_
    cases hv
    exact k H2 e2
theorem rp_inTab (G : Fc K mg) {neg : Bool} {z : Str} {n : Int} {ps : List (Addr × Tr)} {H : Hp} : RP (rInO K (f_Table_contains K) (spIn K) neg) (is (.str z)) (tabR K n ps) H (is (.bl (neg != decide (z ∈ pnames ps)))) := fun H1 e a b h1 h2 Q k => by
  cases h1
  obtain ⟨x, dx, d, nm, pl, rw, rfl, h1, h3⟩ := id h2
  exact ⟨x, _, dx, _, rfl, h1, G.h_Table_contains, _, n, ps, z, rfl, h2, fun H' e' => ⟨_, rfl, k _ H' e' rfl⟩⟩
/-! ### need_names -/
def spNeedNames (K : PySem.W.Frag) : Sp := fun vs H Q _ => ∃ (x : V) (n : Int) (ps : List (Addr × Tr)) (a : Addr) (zs : List Str), vs = [x, .ref a] ∧ tabR K n ps x H ∧ H a = some (.tup (zs.map V.str)) ∧ (∀ z ∈ zs, z ∈ pnames ps) ∧ ∀ H', Same H H' → Q .non H'
theorem sc_Table_need_names : FnScope ["self", "names", "name"] ["self", "names"] (defScope s_Table_need_names) := ⟨rfl, rfl, rfl, by decide +kernel, rfl, by decide +kernel, by decide +kernel⟩
theorem ok_Table_need_names (G : Fc K mg) : Fn R.prog w K mg base 2 (f_Table_need_names K) (spNeedNames K) := by
  refine fnA G.d_Table_need_names sc_Table_need_names (fun _ _ _ _ _ _ us hl => match us, hl with | [_, _], _ => rfl) (fun vs H Q h => ?_) (fun vs H Q E h => h) (fun cdv A outer s H vs Q hr h => ?_)
  · obtain ⟨x, n, ps, a, zs, rfl, _⟩ := h
    rfl
  · obtain ⟨x, n, ps, a, zs, rfl, hx, ha, hz, k⟩ := h
    have nd := sc_Table_need_names.nd
    refine ⟨_, pss_one (ps_for PassesOwn.never rfl (pi_tup (pv 1)) (pg_name (i := 2) nd rfl (Or.inl rfl)) (pss_one (ps_if (pt_cmpR (op_notInO (ok_Table_contains G) hr) (pv 2) (pv 0) (by rfl)) pss_never pss_nil))), ?_⟩
    refine ⟨_, rfl, a, rfl, ⟨_, SqT.of ha⟩, ?_⟩
    refine for_it (walk_tup (K := K) (a := a) (xs := zs.map V.str)) (fun i σ H' => Same H H' ∧ ∃ s, σ = [some x, some (.ref a), s]) ⟨Same.refl _, _, rfl⟩ (fun i σ H' _ p => SqT.of (p.1 _ _ ha)) ?_ ?_
    · rintro i y σ H2 H3 hi ⟨e2, s, rfl⟩ ⟨rfl, hy⟩
      obtain ⟨z, hz2, rfl⟩ := List.mem_map.mp (List.mem_of_getElem? hy)
      have t := ev_op (ev_v (i := 2) (σ := [some x, some (.ref a), some (.str z)]) (H := H3) rfl) (ev_var (i := 0) rfl (Stab.st (nl_same e2) hx)) (rp_inTab G (neg := true))
      rw [decide_eq_true (hz z hz2)] at t
      exact s_skip1 (et_test t) fun H4 e4 => ⟨e2.trans e4, _, rfl⟩
    · rintro σ H2 ⟨e2, _⟩
      exact k H2 e2
/-! ### [name] -/
def spGet (K : PySem.W.Frag) : Sp := fun vs H Q _ => ∃ (x : V) (n : Int) (ps : List (Addr × Tr)) (j : Nat) (p : Addr × Tr), vs = [x, .str p.2.name] ∧ tabR K n ps x H ∧ ps[j]? = some p ∧ (pnames ps).Nodup ∧ ∀ H', Same H H' → prQ K p (.ref p.1) H' → Q (.ref p.1) H'
theorem sc_Table_getitem : FnScope ["self", "name"] ["self", "name"] (defScope s_Table_getitem) := ⟨rfl, rfl, rfl, by decide +kernel, rfl, by decide +kernel, by decide +kernel⟩
theorem pnames_at {ps : List (Addr × Tr)} {j : Nat} {p : Addr × Tr} (h : ps[j]? = some p) : (pnames ps)[j]? = some p.2.name := by
  unfold pnames trs
  rw [List.getElem?_map, List.getElem?_map, h]
  rfl
theorem ok_Table_getitem (G : Fc K mg) : Fn R.prog w K mg base 2 (f_Table_getitem K) (spGet K) := by
  refine fnA G.d_Table_getitem sc_Table_getitem (fun _ _ _ _ _ _ us hl => match us, hl with | [_, _], _ => rfl) (fun vs H Q h => ?_) (fun vs H Q E h => h) (fun cdv A outer s H vs Q hr h => ?_)
  · obtain ⟨x, n, ps, j, p, rfl, _⟩ := h
    rfl
  · obtain ⟨x, n, ps, j, p, rfl, hx, hj, nd, k⟩ := h
    refine ⟨_, pss_cons (ps_if (pt_cmpR (op_notInO (ok_Table_contains G) hr) (pv 1) (pv 0) (by rfl)) pss_never pss_nil) <|
      pss_one (ps_ret (pe_ix ix_tup (pe_fld (pv 0) rfl) (pe_mG ty_tupF PySem.F.plainAttrs_tuple PySem.F.slot_tuple_index PySem.F.type_tuple_index mt_tup_index (pe_fld (pv 0) rfl) (pa_cons (pv 1) pa_nil)) (fun _ _ => rfl))), ?_⟩
    have h0 : EvP (tVar 0) (start ["self", "name"] [x, .str p.2.name]) H (tabR K n ps) := ev_var rfl hx
    have hn := pnames_at hj
    have t := ev_op (ev_v (i := 1) (σ := start ["self", "name"] [x, .str p.2.name]) (H := H) rfl) h0 (rp_inTab G (neg := true))
    rw [decide_eq_true (List.mem_of_getElem? hn)] at t
    refine s_skip (et_test t) fun H1 e1 => ?_
    unfold tRet tOp
    refine EvP.run (EvP.mono e1 (ev_tabrows G h0)) fun v H2 e2 hv => ?_
    unfold tMG
    obtain ⟨a, vs, rfl, ha, hvs⟩ := hv
    refine EvP.run (EvP.mono (e1.trans e2) (ev_tabnames G h0)) fun v H3 e3 hv => ?_
    obtain ⟨b, o, us, rfl, hd, hb, hus⟩ := hv
    rw [txQ_all hus] at hb
    refine ⟨⟨b, o, _, rfl, hd, hb⟩, _, rfl, b, _, p.2.name, j, rfl, rfl, SqT.frz hb, hn, fun m hm q => absurd (nodup_ix nd q hn) (by omega), ?_⟩
    rw [prs_refs hvs] at ha hvs
    have hat : atI (refs ps) (j : Nat) = some (.ref p.1) := atI_nat (by unfold refs; rw [List.getElem?_map, hj]; rfl)
    refine ⟨a, _, _, _, rfl, rfl, SqT.of (e3 _ _ ha), hat, k H3 ((e1.trans e2).trans e3) ?_⟩
    have := (prs_at hvs (i := j) (v := .ref p.1) (by unfold refs; rw [List.getElem?_map, hj]; rfl)).1
    rw [List.getD_eq_getElem?_getD, hj] at this
    exact Stab.st (nl_same e3) this
end
end K22

set_option Elab.async false
set_option linter.all false
set_option pp.maxSteps 400
set_option maxRecDepth 100000
set_option maxHeartbeats 4000000
/-! C12: tables: other tables from them. -/
namespace K22
open PySem PySem.Spec PyProof.Rows L2
section
variable {K : PySem.W.Frag} {H : Hp} {σ : L2.St} {te : TE} {t : TA}
/-- values that are these trips -/
def AsT (K : PySem.W.Frag) (As : List VQ) (ts : List Tr) : Prop := ∀ {vs : List V} {H : Hp}, All2 As vs H → All2 (tripsQ K ts) vs H
theorem asT_nil : AsT K [] [] := fun h => h
theorem asT_trips {ts : List Tr} : AsT K (tripsQ K ts) ts := fun h => h
theorem asT_prs {ps : List (Addr × Tr)} : AsT K (prsQ K ps) (trs ps) := fun h => prs_trips h
theorem all2_split {As Bs : List VQ} : ∀ {vs : List V}, All2 (As ++ Bs) vs H → ∃ us ws, vs = us ++ ws ∧ All2 As us H ∧ All2 Bs ws H := by
  induction As with
  | nil => exact fun h => ⟨[], _, rfl, .nil, h⟩
  | cons A As ih =>
    intro vs h
    obtain ⟨v, r, rfl, h1, h2⟩ := all2_cons h
    obtain ⟨us, ws, rfl, h3, h4⟩ := ih h2
    exact ⟨v :: us, ws, rfl, .cons h1 h3, h4⟩
theorem asT_app {As Bs : List VQ} {ts us : List Tr} (h1 : AsT K As ts) (h2 : AsT K Bs us) : AsT K (As ++ Bs) (ts ++ us) := fun h => by
  obtain ⟨u, v, rfl, a, b⟩ := all2_split h
  have := (h1 a).app (h2 b)
  unfold tripsQ at this ⊢
  rw [List.map_append]
  exact this
theorem mk_tab {As : List VQ} {ts : List Tr} {T : Tb} {n : Int} (ha : AsT K As ts) (hn : n = T.day) (hp : ts.Perm T.rows) (ok : T.Ok) : MkP (spTI K) (cTable K) (dayQ K n :: As) H (tabQ K T) := by
  subst hn
  intro H1 e vs hv
  obtain ⟨d, rest, rfl, h1, h2⟩ := all2_cons hv
  exact mk_table hp ok H1 e (d :: rest) (.cons h1 (ha h2))
end
section
variable {w : World} {K : PySem.W.Frag} {mg : Str → Option Value} {base : Heap}
/-! ### len -/
def spTabLen (K : PySem.W.Frag) : Sp := fun vs H Q _ => ∃ (x : V) (n : Int) (ps : List (Addr × Tr)), vs = [x] ∧ tabR K n ps x H ∧ ∀ H', Same H H' → Q (.int ps.length) H'
theorem sc_Table_len : FnScope ["self"] ["self"] (defScope s_Table_len) := ⟨rfl, rfl, rfl, by decide +kernel, rfl, by decide +kernel, by decide +kernel⟩
theorem ok_Table_len (G : Fc K mg) : Fn R.prog w K mg base 1 (f_Table_len K) (spTabLen K) := by
  refine fnA G.d_Table_len sc_Table_len (fun _ _ _ _ _ _ us hl => match us, hl with | [_], _ => rfl) (fun vs H Q h => ?_) (fun vs H Q E h => h) (fun cdv A outer s H vs Q hr h => ?_)
  · obtain ⟨x, n, ps, rfl, _⟩ := h
    rfl
  · obtain ⟨x, n, ps, rfl, hx, k⟩ := h
    refine ⟨_, pss_one (ps_ret (pe_callB call_len_seq (by rfl) G.b_len PySem.boot_len (pa_cons (pe_fld (pv 0) rfl) pa_nil))), ?_⟩
    have h0 : EvP (tVar 0) (start ["self"] [x]) H (tabR K n ps) := ev_var rfl hx
    refine s_ret (ev_cb (ea_cons (ev_tabrows G h0) ea_nil) (cp_lenU (K := K))) fun v H2 e2 hv => ?_
    cases hv
    unfold prsQ
    rw [List.length_map]
    exact k H2 e2
/-! ### iter -/
def preIt (K : PySem.W.Frag) : Addr → Addr → Hp → Prop := fun a l H => ∃ dx d nm pl zs, H a = some (.ins (cTable K) dx [("day", d), ("names", nm), ("places", pl), ("rows", .ref l)]) ∧ H l = some (.tup zs)
theorem sc_Table_iter : FnScope ["self"] ["self"] (defScope s_Table_iter) := ⟨rfl, rfl, rfl, by decide +kernel, rfl, by decide +kernel, by decide +kernel⟩
theorem ok_Table_iter (G : Fc K mg) : FnIt R.prog w K mg base 1 (f_Table_iter K) (preIt K) := by
  intro A outer s H a l Q hr e0 hpre hq
  obtain ⟨fd, F⟩ := G.d_Table_iter
  obtain ⟨oc, od, dV, kV, doc, pm, an, cdv, ct, osl, rfl, lk, hcd, hD, _⟩ := F.ex
  rcases hD with ⟨_, rfl⟩ | ⟨hne, _⟩
  · refine run_of (CX := CX0) (E := E0) (N := ["self"]) (ps := ["self"]) (k := 0) (us := [.ref a]) (vs := [.ref a]) lk hcd sc_Table_iter rfl hr e0 (BindsTo.of_eq rfl) (.cons rfl .nil) fun hr' => ?_
    obtain ⟨dx, d, nm, pl, zs, h1, h2⟩ := hpre
    refine ⟨_, (pss_one (ps_ret (pe_callB call_iterU (by rfl) G.b_iter (by decide +kernel) (pa_cons (pe_fld (pv 0) rfl) pa_nil)))), ?_⟩
    exact ⟨_, rfl, a, _, dx, _, .ref l, rfl, h1, G.c_Table, G.n_Table_rows, rfl, l, zs, rfl, SqT.of h2, hq⟩
  · exact absurd rfl hne
/-! ### += -/
def rNeO (K : PySem.W.Frag) (f : Addr) (sp : Sp) : R2 := fun x y H Q => ∃ a C dx fs b D dy gs, x = .ref a ∧ y = .ref b ∧ H a = some (.ins C dx fs) ∧ H b = some (.ins D dy gs) ∧ Meth K C "__eq__" f ∧ NeC K C ∧ PySem.W.notFirst K C (.ref D) = true ∧
    sp [.ref a, .ref b] H (fun z H' => ∃ r, z = .bl r ∧ Q (.bl (!r)) H') E0
theorem rp_neDay (G : Fc K mg) {n m : Int} {H : Hp} : RP (rNeO K (f_Day_eq K) (spDayEq2 K)) (dayQ K n) (dayQ K m) H (is (.bl (!decide (n = m)))) := fun H1 e x y hx hy Q k => by
  obtain ⟨a, dx, rfl, ha⟩ := id hx
  obtain ⟨b, dy, rfl, hb⟩ := id hy
  exact ⟨a, _, dx, _, b, _, dy, _, rfl, rfl, ha, hb, G.h_Day_eq, G.ne_Day, G.nf_Day_Day, _, _, n, m, rfl, hx, hy, fun H' e' => ⟨_, rfl, k _ H' e' rfl⟩⟩
theorem cp_isTable (G : Fc K mg) {n : Int} {ps : List (Addr × Tr)} {H : Hp} : CP (rIsi K) [tabR K n ps, is (.ref (cTable K))] H (is (.bl true)) := fun H1 e vs hv Q k => by
  obtain ⟨v, ws, rfl, ⟨x, dx, d, nm, pl, rw, rfl, h1, _⟩, h2⟩ := all2_cons hv
  exact cp_isi G.c_Table G.ins_Table G.k_Table_Table H1 e _ (.cons ⟨x, dx, rfl, h1⟩ h2) Q k
def spTabAdd (K : PySem.W.Frag) : Sp := fun vs H Q _ => ∃ (x y : V) (n : Int) (ps qs : List (Addr × Tr)) (T : Tb), vs = [x, y] ∧ tabR K n ps x H ∧ tabR K n qs y H ∧ n = T.day ∧ (trs ps ++ trs qs).Perm T.rows ∧ T.Ok ∧ ∀ v H', Same H H' → tabQ K T v H' → Q v H'
theorem sc_Table_add : FnScope ["self", "other"] ["self", "other"] (defScope s_Table_add) := ⟨rfl, rfl, rfl, by decide +kernel, rfl, by decide +kernel, by decide +kernel⟩
theorem ok_Table_add (G : Fc K mg) : Fn R.prog w K mg base 6 (f_Table_add K) (spTabAdd K) := by
  refine fnA G.d_Table_add sc_Table_add (fun _ _ _ _ _ _ us hl => match us, hl with | [_, _], _ => rfl) (fun vs H Q h => ?_) (fun vs H Q E h => h) (fun cdv A outer s H vs Q hr h => ?_)
  · obtain ⟨x, y, n, ps, qs, T, rfl, _⟩ := h
    rfl
  · obtain ⟨x, y, n, ps, qs, T, rfl, hx, hy, hn, hp, ok, k⟩ := h
    refine ⟨_, pss_cons (ps_if (pt_not (pt_val (pe_callB call_isi (by rfl) G.b_isinstance (by decide +kernel) (pa_cons (pv 1) (pa_cons (pe_glob (v := .ref (cTable K)) (by rfl) G.g_Table rfl) pa_nil))))) pss_never pss_nil) <|
      pss_cons (ps_if (pt_cmpR (op_neO (ok_Day_eq G) hr) (pe_fld (pv 0) rfl) (pe_fld (pv 1) rfl) (nomark _)) pss_never pss_nil) <|
      pss_one (ps_ret (pe_mkS G.m_Table (ok_Table_init G) hr G.g_Table (pa_cons (pe_fld (pv 0) rfl) (StX.pa_star (pe_fld (pv 0) rfl) (StX.pa_star (pe_fld (pv 1) rfl) pa_nil))))), ?_⟩
    have h0 : EvP (tVar 0) (start ["self", "other"] [x, y]) H (tabR K n ps) := ev_var rfl hx
    have h1 : EvP (tVar 1) (start ["self", "other"] [x, y]) H (tabR K n qs) := ev_var rfl hy
    refine s_skip (et_not (b := true) (et_B (ev_cb (ea_cons h1 (ea_cons ev_k ea_nil)) (cp_isTable G)))) fun H1 e1 => ?_
    refine s_skip (et_eq (et_test (ev_op (EvP.mono e1 (ev_tabday G h0)) (EvP.mono e1 (ev_tabday G h1)) (rp_neDay G))) (by simp)) fun H2 e2 => ?_
    have e02 := e1.trans e2
    refine s_ret (ev_mk (ea_cons (EvP.mono e02 (ev_tabday G h0)) (ea_starT (EvP.mono e02 (ev_tabrows G h0)) (ea_starT (EvP.mono e02 (ev_tabrows G h1)) ea_nil))) (mk_tab (asT_app asT_prs (asT_app asT_prs asT_nil)) hn (by rw [List.append_nil]; exact hp) ok)) fun v H3 e3 hv => k v H3 (e02.trans e3) hv
/-! ### with_trips -/
def spWith (K : PySem.W.Frag) : Sp := fun vs H Q _ => ∃ (x : V) (n : Int) (ps : List (Addr × Tr)) (a : Addr) (xs : List V) (ts : List Tr) (T : Tb), vs = [x, .ref a] ∧ tabR K n ps x H ∧ H a = some (.tup xs) ∧ All2 (tripsQ K ts) xs H ∧ n = T.day ∧ (trs ps ++ ts).Perm T.rows ∧ T.Ok ∧ ∀ v H', Same H H' → tabQ K T v H' → Q v H'
theorem sc_Table_with_trips : FnScope ["self", "trips"] ((["self"] : List Str) ++ [("trips" : Str)]) (defScope s_Table_with_trips) := ⟨rfl, rfl, rfl, by decide +kernel, rfl, by decide +kernel, by decide +kernel⟩
theorem ok_Table_with_trips (G : Fc K mg) : Fn R.prog w K mg base 6 (f_Table_with_trips K) (fun vs H Q E => ∃ ws rest, vs = ws ++ rest ∧ ws.length = 1 ∧ rest.length ≤ sizeLine ∧ ∀ p, H p = none → spWith K (ws ++ [V.ref p]) (upd H p (.tup rest)) Q E) := by
  refine fnS (sp := spWith K) (ps := ["self"]) (pv := "trips") G.d_Table_with_trips sc_Table_with_trips (fun _ _ _ _ _ _ us rest hl => match us, rest, hl with | [_], [], _ => rfl | [_], _ :: _, _ => rfl) (fun vs H Q E h => h) (fun cdv A outer s H vs Q hr h => ?_)
  obtain ⟨x, n, ps, a, xs, ts, T, rfl, hx, ha, hxs, hn, hp, ok, k⟩ := h
  refine ⟨_, pss_cons (ps_expr (pe_f (ok_need_all G) hr G.g_need_all_trips G.d_need_all_trips.choose_spec.kp (pa_cons (pv 1) pa_nil))) <|
    pss_one (ps_ret (pe_mkS G.m_Table (ok_Table_init G) hr G.g_Table (pa_cons (pe_fld (pv 0) rfl) (StX.pa_star (pe_fld (pv 0) rfl) (StX.pa_star (pv 1) pa_nil))))), ?_⟩
  have h0 : EvP (tVar 0) (start ["self", "trips"] [x, .ref a]) H (tabR K n ps) := ev_var rfl hx
  have h1 : EvP (tVar 1) (start ["self", "trips"] [x, .ref a]) H (tupQ (tripsQ K ts)) := ev_var rfl ⟨a, xs, rfl, ha, hxs⟩
  refine EvP.run (ev_f (ea_cons (ev_v (v := .ref a) rfl) ea_nil) (sp_needAll ha hxs)) fun _ H1 e1 _ => ?_
  refine s_ret (ev_mk (ea_cons (EvP.mono e1 (ev_tabday G h0)) (ea_starT (EvP.mono e1 (ev_tabrows G h0)) (ea_starT (EvP.mono e1 h1) ea_nil))) (mk_tab (asT_app asT_prs (asT_app asT_trips asT_nil)) hn (by rw [List.append_nil]; exact hp) ok)) fun v H3 e3 hv => k v H3 (e1.trans e3) hv
end
end K22

set_option Elab.async false
set_option linter.all false
set_option pp.maxSteps 400
set_option maxRecDepth 100000
set_option maxHeartbeats 4000000
/-! C13: tables: between, without, ==. -/
namespace K22
open PySem PySem.Spec PyProof.Rows L2
section
variable {K : PySem.W.Frag} {H : Hp} {σ : L2.St} {te : TE} {t : TA} {mg : Str → Option Value} {n : Int} {ps : List (Addr × Tr)}
theorem tabR_rows (G : Fc K mg) {x : V} (h : tabR K n ps x H) : ∃ r, (∀ te σ, EvP te σ H (is x) → EvP (tFld K te "rows") σ H (is (.ref r))) ∧ H r = some (.tup (refs ps)) ∧ All2 (prsQ K ps) (refs ps) H := by
  obtain ⟨x, dx, d, nm, pl, rw, rfl, h1, _, _, _, r, vs, rfl, h5, h6⟩ := id h
  have e := prs_refs h6
  subst e
  exact ⟨r, fun te σ he H1 e Q k => he H1 e _ fun v H2 e2 hv => ⟨x, _, dx, _, .ref r, hv, e2 _ _ (e _ _ h1), G.c_Table, G.n_Table_rows, rfl, k _ H2 e2 rfl⟩, h5, h6⟩
theorem kept_prs {m : Nat} (hn : m = ps.length) (p : Addr × Tr → Bool) : keptQ (fun i => p (ps.getD i default)) (fun i => prQ K (ps.getD i default)) m = prsQ K (ps.filter p) := by
  unfold keptQ prsQ
  rw [hn]
  exact range_map ps default p (prQ K)
theorem refs_len {ps : List (Addr × Tr)} : (refs ps).length = ps.length := List.length_map _
theorem trs_len {ps : List (Addr × Tr)} : (trs ps).length = ps.length := List.length_map _
end
section
variable {w : World} {K : PySem.W.Frag} {mg : Str → Option Value} {base : Heap}
theorem sp_order {ps qs : List (Addr × Tr)} {H : Hp} (hl : ps.length ≤ 60) (hok : ∀ t ∈ ps, t.2.Ok) (hp : qs.Perm ps) (hs : (qs.map (·.2.key)).Pairwise (fun a b => sLt a b = true)) : SP (spOrder K) [lstQ (prsQ K ps)] H (lstQ (prsQ K qs)) := fun H1 e vs hv Q k => by
  obtain ⟨v, ws, rfl, ⟨a, xs, rfl, ha, hx⟩, h2⟩ := all2_cons hv
  cases h2
  exact ⟨a, xs, ps, qs, rfl, ha, hx, hl, hok, hp, hs, fun v H' e' h' => k v H' e' h'⟩
/-! ### between -/
def inB (a b : Int) (p : Addr × Tr) : Bool := decide (a ≤ p.2.leaves) && decide (p.2.leaves < b)
def spBtw (K : PySem.W.Frag) : Sp := fun vs H Q _ => ∃ (x : V) (n a b : Int) (ps qs : List (Addr × Tr)), vs = [x, .int a, .int b] ∧ tabR K n ps x H ∧ ps.length ≤ 31 ∧ (∀ t ∈ ps, t.2.Ok) ∧ qs.Perm (ps.filter (inB a b)) ∧ (qs.map (·.2.key)).Pairwise (fun a b => sLt a b = true) ∧ ∀ v H', Same H H' → tupQ (prsQ K qs) v H' → Q v H'
theorem sc_Table_between : FnScope ["self", "a", "b", "trip"] ["self", "a", "b"] (defScope s_Table_between) := ⟨rfl, rfl, rfl, by decide +kernel, rfl, by decide +kernel, by decide +kernel⟩
theorem ok_Table_between (G : Fc K mg) : Fn R.prog w K mg base 2 (f_Table_between K) (spBtw K) := by
  refine fnA G.d_Table_between sc_Table_between (fun _ _ _ _ _ _ us hl => match us, hl with | [_, _, _], _ => rfl) (fun vs H Q h => ?_) (fun vs H Q E h => h) (fun cdv A outer s H vs Q hr h => ?_)
  · obtain ⟨x, n, a, b, ps, qs, rfl, _⟩ := h
    rfl
  · obtain ⟨x, n, a, b, ps, qs, rfl, hx, hl, hok, hp, hs, k⟩ := h
    have nd := sc_Table_between.nd
    refine ⟨_, pss_one (ps_ret (pe_callTy call_tuple_of (by rfl) G.b_tuple (by decide +kernel) (pa_cons (pe_f (ok_in_order G) hr G.g_in_order G.d_in_order.choose_spec.kp (pa_cons
      (pe_lc (te := tVar 3) (tt := tTest (tChain (rI0 fun i j => .bl (decide (i ≤ j))) (rI0 fun i j => .bl (decide (i < j))) (tVar 1) (tFld K (tVar 3) "leaves") (tVar 2))) (own := [("trip", 3)]) (g := gName 3) (by rfl) nd (pi_tup (pe_fld (pv 0) rfl)) (blkOk_by (own := [("trip", 3)]) (N := ["self", "a", "b", "trip"]) (sc := defScope s_Table_between) (by decide +kernel))
        (fun _ _ _ _ _ => pg_name (i := 3) nd rfl (Or.inl rfl)) (fun _ _ _ _ _ => pts_one (pt_chain op_le op_lt (pv 1) (pe_fld (pv 3) rfl) (pv 2))) (fun _ _ _ _ _ => pv 3)) pa_nil)) pa_nil))), ?_⟩
    obtain ⟨r, hr1, hr2, hr3⟩ := tabR_rows G hx
    have h0 : EvP (tVar 0) (start ["self", "a", "b", "trip"] [x, .int a, .int b]) H (is x) := ev_v rfl
    have hlc := ev_lcT (K := K) (g := gName 3) (vs := [3]) (te := tVar 3) (tt := tTest (tChain (rI0 fun i j => .bl (decide (i ≤ j))) (rI0 fun i j => .bl (decide (i < j))) (tVar 1) (tFld K (tVar 3) "leaves") (tVar 2))) (ei_tup (hr1 _ _ h0) hr2) (fun i => inB a b (ps.getD i default)) (fun i => prQ K (ps.getD i default)) (by rw [refs_len]; omega) fun i v hi => by
        obtain ⟨ht, _⟩ := prs_at hr3 hi
        have h3 : EvP (tVar 3) ((wipe (start ["self", "a", "b", "trip"] [x, .int a, .int b]) [3]).set 3 (some v)) H (tripQ K (ps.getD i default).2) := ev_var rfl ht.2
        exact ⟨(wipe (start ["self", "a", "b", "trip"] [x, .int a, .int b]) [3]).set 3 (some v), rfl, fun H' R hR => hR, et_test (et_chain (ev_v rfl) (ev_tleaves G h3) (fun _ => ev_v rfl) rp_I0 rp_I0), fun _ => ev_var rfl ht⟩
    rw [kept_prs refs_len] at hlc
    exact s_ret (ev_cb (ea_cons (ev_f (ea_cons hlc ea_nil) (sp_order (Nat.le_trans (List.length_filter_le _ _) (by omega)) (fun t ht => hok t (List.mem_filter.mp ht).1) hp hs)) ea_nil) cp_tuple) fun v H2 e2 hv => k v H2 e2 hv
/-! ### without -/
def spWithout (K : PySem.W.Frag) : Sp := fun vs H Q _ => ∃ (x : V) (n : Int) (ps : List (Addr × Tr)) (a : Addr) (zs : List Str) (T : Tb), vs = [x, .ref a] ∧ tabR K n ps x H ∧ ps.length ≤ 31 ∧ H a = some (.tup (zs.map V.str)) ∧ (∀ z ∈ zs, z ∈ pnames ps) ∧ n = T.day ∧ (trs (ps.filter fun p => !decide (p.2.name ∈ zs))).Perm T.rows ∧ T.Ok ∧ ∀ v H', Same H H' → tabQ K T v H' → Q v H'
theorem sc_Table_without : FnScope ["self", "names", "left", "trip"] ((["self"] : List Str) ++ [("names" : Str)]) (defScope s_Table_without) := ⟨rfl, rfl, rfl, by decide +kernel, rfl, by decide +kernel, by decide +kernel⟩
theorem ok_Table_without (G : Fc K mg) : Fn R.prog w K mg base 6 (f_Table_without K) (fun vs H Q E => ∃ ws rest, vs = ws ++ rest ∧ ws.length = 1 ∧ rest.length ≤ sizeLine ∧ ∀ p, H p = none → spWithout K (ws ++ [V.ref p]) (upd H p (.tup rest)) Q E) := by
  refine fnS (sp := spWithout K) (ps := ["self"]) (pv := "names") G.d_Table_without sc_Table_without (fun _ _ _ _ _ _ us rest hl => match us, rest, hl with | [_], [], _ => rfl | [_], _ :: _, _ => rfl) (fun vs H Q E h => h) (fun cdv A outer s H vs Q hr h => ?_)
  obtain ⟨x, n, ps, a, zs, T, rfl, hx, hl, ha, hz, hn, hp, ok, k⟩ := h
  have nd := sc_Table_without.nd
  refine ⟨_, pss_cons (ps_expr (pe_m hr (pv 0) (pa_cons (pv 1) pa_nil))) <|
    pss_cons (ps_setLc (i := 2) (te := tVar 3) (tt := tTest (tOp (rIn K true) (tFld K (tVar 3) "name") (tVar 1))) (own := [("trip", 3)]) (g := gName 3) (by rfl) nd rfl rfl (sw_true rfl rfl rfl (by decide +kernel)) (pi_tup (pe_fld (pv 0) rfl)) (blkOk_by (own := [("trip", 3)]) (N := ["self", "names", "left", "trip"]) (sc := defScope s_Table_without) (by decide +kernel))
        (fun _ _ _ _ _ => pg_name (i := 3) nd rfl (Or.inl rfl)) (fun _ _ _ _ _ => pts_one (pt_cmpR op_notIn_seq (pe_fld (pv 3) rfl) (pv 1) (by rfl))) (fun _ _ _ _ _ => pv 3)) <|
    pss_one (ps_ret (pe_mkS G.m_Table (ok_Table_init G) hr G.g_Table (pa_cons (pe_fld (pv 0) rfl) (StX.pa_star (pv 2) pa_nil)))), ?_⟩
  obtain ⟨x, dx, d, nm, pl, rw, rfl, h1, _⟩ := id hx
  refine ⟨_, rfl, x, _, dx, _, _, 2, _, rfl, h1, G.c_Table, G.h_Table_need_names, rfl, ok_Table_need_names G, by decide, _, rfl, .ref x, n, ps, a, zs, rfl, hx, ha, hz, fun H1 e1 => ?_⟩
  have hx1 := Stab.st (nl_same e1) hx
  obtain ⟨r, hr1, hr2, hr3⟩ := tabR_rows G hx1
  have h0 : EvP (tVar 0) (start ["self", "names", "left", "trip"] [.ref x, .ref a]) H1 (is (.ref x)) := ev_v rfl
  have hlc := ev_lcT (K := K) (g := gName 3) (vs := [3]) (te := tVar 3) (tt := tTest (tOp (rIn K true) (tFld K (tVar 3) "name") (tVar 1))) (ei_tup (hr1 _ _ h0) hr2) (fun i => !decide ((ps.getD i default).2.name ∈ zs)) (fun i => prQ K (ps.getD i default)) (by rw [refs_len]; omega) fun i v hi => by
      obtain ⟨ht, _⟩ := prs_at hr3 hi
      have h3 : EvP (tVar 3) ((wipe (start ["self", "names", "left", "trip"] [.ref x, .ref a]) [3]).set 3 (some v)) H1 (tripQ K (ps.getD i default).2) := ev_var rfl ht.2
      refine ⟨(wipe (start ["self", "names", "left", "trip"] [.ref x, .ref a]) [3]).set 3 (some v), rfl, fun H' R hR => hR, ?_, fun _ => ev_var rfl ht⟩
      have := ev_op (ev_tname G h3) (ev_v (i := 1) (v := .ref a) rfl) (rp_inT (K := K) (neg := true) (x := .str (ps.getD i default).2.name) (e1 _ _ ha) rfl flat_strs)
      rw [inV_dec] at this
      exact et_test this
  rw [kept_prs refs_len fun p => !decide (p.2.name ∈ zs)] at hlc
  refine s_set hlc fun v H2 e2 hv => ?_
  have h0' : EvP (tVar 0) ((start ["self", "names", "left", "trip"] [.ref x, .ref a]).set 2 (some v)) H2 (tabR K n ps) := ev_var rfl (Stab.st (nl_same e2) hx1)
  have h2' : EvP (tVar 2) ((start ["self", "names", "left", "trip"] [.ref x, .ref a]).set 2 (some v)) H2 (lstQ (prsQ K (ps.filter fun p => !decide (p.2.name ∈ zs)))) := ev_var rfl hv
  exact s_ret (ev_mk (ea_cons (ev_tabday G h0') (ea_starL h2' ea_nil)) (mk_tab (asT_app asT_prs asT_nil) hn (by rw [List.append_nil]; exact hp) ok)) fun v H3 e3 hv => k v H3 ((e1.trans e2).trans e3) hv
/-! ### == -/
def DTrip (K : PySem.W.Frag) : Eqv := fun x y H => ∃ t : Tr, t.Ok ∧ tripQ K t x H ∧ tripQ K t y H
theorem mon_trip : Mon (DTrip K) := fun x y H H' e ⟨t, ok, h1, h2⟩ => ⟨t, ok, Mono.mono e h1, Mono.mono e h2⟩
theorem Fc.heqT (G : Fc K mg) (s : Bool) : Meth K (cT K s) "__eq__" (f_Trip_eq K) := by
  cases s
  · exact G.h_Run_eq
  · exact G.h_Stay_eq
theorem rcG_trip {X : Cx} (G : Fc X.K mg) (F : FnX X 1 (f_Trip_eq X.K) (spSame (tripQ X.K))) : RcG X 1 (DTrip X.K) := by
  intro A pins s σ H x y u v sb I rx ry d
  obtain ⟨t, ok, hx, hy⟩ := d
  obtain ⟨a, dx, rfl, ha⟩ := id hx
  obtain ⟨b, dy, rfl, hb⟩ := id hy
  cases rx
  cases ry
  obtain ⟨od, J⟩ := inst_of I ha
  obtain ⟨od', J'⟩ := inst_of I hb
  obtain ⟨m, hF⟩ := I.fr
  have M := G.heqT t.stay
  refine PySem.W.cmp_K (op := .Eq) (tb := .ref (cT X.K t.stay)) sb.room.units0 hF I.ok.mod.kin J J'.type (by simp [PySem.W.notFirst]) M.at_ M.fn ?_
  refine wpAny_mono (run_fnA (Q := fun v H' => v = .bl true ∧ Ext H H') F sb.room sb.fr I (vals2 a b) ⟨_, _, t, rfl, ok, hx, hy, fun H' e => ⟨rfl, e⟩⟩) (fun v s' z => ?_) fun _ _ e => e
  obtain ⟨z, H', I', r, rfl, e⟩ := z
  cases r
  exact ⟨rfl, H', I', e⟩
def spTabEq (K : PySem.W.Frag) : Sp := fun vs H Q _ => ∃ (x y : V) (n : Int) (ps qs : List (Addr × Tr)), vs = [x, y] ∧ tabR K n ps x H ∧ tabR K n qs y H ∧ trs ps = trs qs ∧ (∀ t ∈ trs ps, t.Ok) ∧ ∀ H', Same H H' → Q (.bl true) H'
theorem sc_Table_eq : FnScope ["self", "other"] ["self", "other"] (defScope s_Table_eq) := ⟨rfl, rfl, rfl, by decide +kernel, rfl, by decide +kernel, by decide +kernel⟩
end
end K22

set_option Elab.async false
set_option linter.all false
set_option pp.maxSteps 400
set_option maxRecDepth 100000
set_option maxHeartbeats 4000000
/-! C14: tables: ==, moved. -/
namespace K22
open PySem PySem.Spec PyProof.Rows L2
section
variable {w : World} {K : PySem.W.Frag} {mg : Str → Option Value} {base : Heap}
theorem rp_eqDay (G : Fc K mg) {n m : Int} {H : Hp} : RP (rOwn2 K (f_Day_eq K) "__eq__" (spDayEq2 K)) (dayQ K n) (dayQ K m) H (is (.bl (decide (n = m)))) := fun H1 e x y hx hy Q k => by
  obtain ⟨a, dx, rfl, ha⟩ := id hx
  obtain ⟨b, dy, rfl, hb⟩ := id hy
  exact ⟨a, _, dx, _, b, _, dy, _, rfl, rfl, ha, hb, G.h_Day_eq, G.nf_Day_Day, _, _, n, m, rfl, hx, hy, fun H' e' => k _ H' e' rfl⟩
theorem rp_eqRows {ps qs : List (Addr × Tr)} {H : Hp} (he : trs ps = trs qs) (ok : ∀ t ∈ trs ps, t.Ok) : RP (rEqG (DTup K (DTrip K))) (tupQ (prsQ K ps)) (tupQ (prsQ K qs)) H (is (.bl true)) := fun H1 e x y ⟨a, xs, hx, ha, hxs⟩ ⟨b, ys, hy, hb, hys⟩ Q k => by
  have h1 := prs_trips hxs
  have h2 := prs_trips hys
  rw [he] at h1
  refine ⟨⟨a, b, xs, ys, hx, hy, SqT.of ha, SqT.of hb, by rw [trips_len h1, trips_len h2], fun i u v hu hv => ?_⟩, fun H' e' => k _ H' e' rfl⟩
  obtain ⟨t1, e1⟩ := trips_at h1 hu
  obtain ⟨t2, e2⟩ := trips_at h2 hv
  exact ⟨_, ok _ (by rw [he]; exact List.mem_of_getElem? e1), t1, t2⟩
theorem ok_Table_eq (G : Fc K mg) : Fn R.prog w K mg base 3 (f_Table_eq K) (spTabEq K) := by
  refine fnA G.d_Table_eq sc_Table_eq (fun _ _ _ _ _ _ us hl => match us, hl with | [_, _], _ => rfl) (fun vs H Q h => ?_) (fun vs H Q E h => h) (fun cdv A outer s H vs Q hr h => ?_)
  · obtain ⟨x, y, n, ps, qs, rfl, _⟩ := h
    rfl
  · obtain ⟨x, y, n, ps, qs, rfl, hx, hy, he, ok, k⟩ := h
    refine ⟨_, pss_one (ps_ret (pe_and (pe_callB call_isi (by rfl) G.b_isinstance (by decide +kernel) (pa_cons (pv 1) (pa_cons (pe_glob (v := .ref (cTable K)) (by rfl) G.g_Table rfl) pa_nil)))
      (pe_and (pe_cmpR (op_cmpO (op := .Eq) (ok_Day_eq G) hr) (pe_fld (pv 0) rfl) (pe_fld (pv 1) rfl) (nomark _))
        (pe_one (pe_cmpR (op_eqG (rcG_tup (mon_trip (K := K)) (RcG.eqG (rcG_trip (mg := mg) G (ok_Trip_eq G)) fun x y H d => let ⟨t, _, h1, h2⟩ := d; let ⟨a, _, e1, _⟩ := h1; let ⟨b, _, e2, _⟩ := h2; ⟨a, b, e1, e2⟩)) hr) (pe_fld (pv 0) rfl) (pe_fld (pv 1) rfl) (nomark _)))))), ?_⟩
    have h0 : EvP (tVar 0) (start ["self", "other"] [x, y]) H (tabR K n ps) := ev_var rfl hx
    have h1 : EvP (tVar 1) (start ["self", "other"] [x, y]) H (tabR K n qs) := ev_var rfl hy
    refine s_ret (ev_andV (ev_cb (ea_cons h1 (ea_cons ev_k ea_nil)) (cp_isTable G)) fun _ => ev_andV (ev_op (ev_tabday G h0) (ev_tabday G h1) (rp_eqDay G)) fun _ => ev_op (ev_tabrows G h0) (ev_tabrows G h1) (rp_eqRows he ok)) fun v H2 e2 hv => ?_
    cases hv
    rw [decide_eq_true rfl]
    exact k H2 e2
end
end K22

set_option Elab.async false
set_option linter.all false
set_option pp.maxSteps 400
set_option maxRecDepth 100000
set_option maxHeartbeats 4000000
/-! C15: tables: moved. -/
namespace K22
open PySem PySem.Spec PyProof.Rows L2
section
variable {w : World} {K : PySem.W.Frag} {mg : Str → Option Value} {base : Heap}
theorem cp_int {i : Int} {H : Hp} : CP (fun xs H Q => (∃ i, xs = [.int i] ∧ Q (.int i) H) ∨ ∃ k, xs = [.bl k] ∧ Q (.int (if k then 1 else 0)) H) [is (.int i)] H (is (.int i)) := fun H1 e vs hv Q k => by
  have ev := all2_is (xs := [.int i]) hv
  subst ev
  exact .inl ⟨i, rfl, k _ H1 (Same.refl H1) rfl⟩
theorem cp_intB {b : Bool} {H : Hp} : CP (fun xs H Q => (∃ i, xs = [.int i] ∧ Q (.int i) H) ∨ ∃ k, xs = [.bl k] ∧ Q (.int (if k then 1 else 0)) H) [is (.bl b)] H (is (.int (if b then 1 else 0))) := fun H1 e vs hv Q k => by
  have ev := all2_is (xs := [.bl b]) hv
  subst ev
  exact .inr ⟨b, rfl, k _ H1 (Same.refl H1) rfl⟩
theorem mp_timed {X : Cx} {n : Nat} {t : Tr} {l k : Int} {H : Hp} (G : Fc X.K mg) (hX : X.prog = R.prog ∧ X.w = w ∧ X.mg = mg) (ok : (t.timed l k).Ok) (hk : 8 ≤ n := by decide) : MethP X n "timed" (tripQ X.K t) [is (.int l), is (.int k)] H (tripQ X.K (t.timed l k)) := by
  obtain ⟨e1, e2, e3⟩ := hX
  intro H1 e x hx
  obtain ⟨a, dx, rfl, ha⟩ := id hx
  have F : ∃ f, Meth X.K (cT X.K t.stay) "timed" f ∧ FnX X 8 f (spTimed X.K t.stay) := by
    cases t.stay
    · exact ⟨_, G.h_Run_timed, by unfold FnX; rw [e1, e2, e3]; exact ok_Run_timed G⟩
    · exact ⟨_, G.h_Stay_timed, by unfold FnX; rw [e1, e2, e3]; exact ok_Stay_timed G⟩
  obtain ⟨f, M, F⟩ := F
  refine ⟨a, _, dx, _, f, 8, _, rfl, ha, (G.tr _).cl, M, rfl, F, hk, fun H2 e2 vs hv Q kk => ?_⟩
  have ev := all2_is (xs := [.int l, .int k]) hv
  subst ev
  exact ⟨.ref a, t, l, k, rfl, rfl, Mono.mono e2 hx, ok, kk⟩
theorem sp_isInt {i : Int} {H : Hp} : SP spInt [is (.int i)] H (is (.bl true)) := fun H1 e vs hv Q k => by
  have ev := all2_is (xs := [.int i]) hv
  subst ev
  exact ⟨i, rfl, k _ H1 (Same.refl H1) rfl⟩
theorem s_setNil {i : Nat} {u : TS} {D : Ends} {σ : L2.St} {H : Hp} (k : ∀ f, H f = none → u D (σ.set i (some (.ref f))) (upd H f (.lst []))) : tSeq (tAsg (tLst tNil) (gName i)) u D σ H := ⟨by decide, fun f hf => k f hf⟩
theorem s_forT {te : TE} {r : Addr} {xs : List V} {g : TG} {tb u : TS} {D : Ends} {σ : L2.St} {H : Hp} (he : EvP te σ H (is (.ref r))) (hr : H r = some (.tup xs)) (Pv : Nat → L2.St → Hp → Prop) (h0 : ∀ H1, Same H H1 → Pv 0 σ H1) (hG : ∀ i σ H', Pv i σ H' → H' r = some (.tup xs))
    (hs : ∀ i x σ H', Pv i σ H' → xs[i]? = some x → g x σ H' fun σ2 H2 => tb { D with nx := Pv (i + 1), ct := Pv (i + 1), bk := u D } σ2 H2) (hd : ∀ σ H', Pv xs.length σ H' → u D σ H') : tSeq (tFor (iTup K te) g tb) u D σ H := he H (Same.refl H) _ fun v H1 e1 hv =>
  ⟨r, hv, ⟨xs, SqT.of (e1 _ _ hr)⟩, for_it (D := { D with nx := u D }) (walk_tup (K := K) (a := r) (xs := xs)) Pv (h0 H1 e1) (fun i σ H' _ p => SqT.of (hG i σ H' p)) (fun i x σ H' H2 hi p ⟨e, hx⟩ => by
    subst e
    exact hs i x σ H2 p hx) hd⟩
theorem s_forL {te : TE} {r : Addr} {xs : List V} {g : TG} {tb u : TS} {D : Ends} {σ : L2.St} {H : Hp} (he : EvP te σ H (is (.ref r))) (hr : H r = some (.lst xs)) (Pv : Nat → L2.St → Hp → Prop) (h0 : ∀ H1, Same H H1 → Pv 0 σ H1) (hG : ∀ i σ H', Pv i σ H' → H' r = some (.lst xs))
    (hs : ∀ i x σ H', Pv i σ H' → xs[i]? = some x → g x σ H' fun σ2 H2 => tb { D with nx := Pv (i + 1), ct := Pv (i + 1), bk := u D } σ2 H2) (hd : ∀ σ H', Pv xs.length σ H' → u D σ H') : tSeq (tFor (iList K te) g tb) u D σ H := he H (Same.refl H) _ fun v H1 e1 hv =>
  ⟨r, hv, ⟨xs, SqL.of (e1 _ _ hr)⟩, for_it (D := { D with nx := u D }) (walk_list (K := K) (a := r) (xs := xs)) Pv (h0 H1 e1) (fun i σ H' _ p => SqL.of (hG i σ H' p)) (fun i x σ H' H2 hi p ⟨e, hx⟩ => by
    subst e
    exact hs i x σ H2 p hx) hd⟩
/-- a trip moved -/
def mvT (n k : Int) (zs : List Str) (t : Tr) : Tr := if zs = [] ∨ t.name ∈ zs then t.timed ((t.leaves + k) % n) t.takes else t
def spMoved (K : PySem.W.Frag) : Sp := fun vs H Q _ => ∃ (x : V) (n k : Int) (ps : List (Addr × Tr)) (a : Addr) (zs : List Str) (T : Tb), vs = [x, .int k, .ref a] ∧ tabR K n ps x H ∧ ps.length ≤ 31 ∧ 1 ≤ n ∧ H a = some (.tup (zs.map V.str)) ∧ (∀ z ∈ zs, z ∈ pnames ps) ∧ n = T.day ∧ (∀ t ∈ trs ps, (mvT n k zs t).Ok) ∧ ((trs ps).map (mvT n k zs)).Perm T.rows ∧ T.Ok ∧ ∀ v H', Same H H' → tabQ K T v H' → Q v H'
theorem sc_Table_moved : FnScope ["self", "k", "names", "found", "trip", "is_moved"] ((["self", "k"] : List Str) ++ [("names" : Str)]) (defScope s_Table_moved) := ⟨rfl, rfl, rfl, by decide +kernel, rfl, by decide +kernel, by decide +kernel⟩
theorem ok_Table_moved (G : Fc K mg) : Fn R.prog w K mg base 9 (f_Table_moved K) (fun vs H Q E => ∃ ws rest, vs = ws ++ rest ∧ ws.length = 2 ∧ rest.length ≤ sizeLine ∧ ∀ p, H p = none → spMoved K (ws ++ [V.ref p]) (upd H p (.tup rest)) Q E) := by
  refine fnS (sp := spMoved K) (ps := ["self", "k"]) (pv := "names") G.d_Table_moved sc_Table_moved (fun _ _ _ _ _ _ us rest hl => match us, rest, hl with | [_, _], [], _ => rfl | [_, _], _ :: _, _ => rfl) (fun vs H Q E h => h) (fun cdv A outer s H vs Q hr h => ?_)
  obtain ⟨x, n, k, ps, a, zs, T, rfl, hx, hl, hn1, ha, hz, hn, hok, hp, ok, kk⟩ := h
  have nd := sc_Table_moved.nd
  refine ⟨_, pss_cons (ps_if (pt_not (pt_val (pe_f (ok_is_integer G) hr G.g_is_integer G.d_is_integer.choose_spec.kp (pa_cons (pv 1) pa_nil)))) pss_never pss_nil) <|
    pss_cons (ps_expr (pe_m hr (pv 0) (pa_cons (pv 2) pa_nil))) <|
    pss_cons (ps_set (i := 3) nd rfl (Or.inl rfl) (pe_lst pa_nil)) <|
    pss_cons (ps_for PassesOwn.never rfl (pi_tup (pe_fld (pv 0) rfl)) (pg_name (i := 4) nd rfl (Or.inl rfl))
      (pss_cons (ps_set (i := 5) nd rfl (Or.inl rfl) (pe_or (pe_cmpR op_eq (pe_callB call_len_seq (by rfl) G.b_len PySem.boot_len (pa_cons (pv 2) pa_nil)) pe_int (nomark _)) (pe_one (pe_cmpR op_in_seq (pe_fld (pv 4) rfl) (pv 2) (by rfl))))) <|
       pss_one (ps_expr (pe_bm PySem.F.plainAttrs_list PySem.F.slot_list_append PySem.F.type_list_append mt_append (pv 3) (pa_cons (pe_ifExp (pt_val (pv 5))
          (pe_m hr (pv 4) (pa_cons (pe_op op_mod (pe_callTy call_int1 (by rfl) G.b_int (by decide +kernel) (pa_cons (pe_op op_add (pe_fld (pv 4) rfl) (pv 1)) pa_nil)) (pe_fld (pe_fld (pv 0) rfl) rfl)) (pa_cons (pe_fld (pv 4) rfl) pa_nil))) (pv 4)) pa_nil))))) <|
    pss_one (ps_ret (pe_mkS G.m_Table (ok_Table_init G) hr G.g_Table (pa_cons (pe_fld (pv 0) rfl) (StX.pa_star (pv 3) pa_nil)))), ?_⟩
  refine s_skip (et_not (b := true) (et_B (ev_f (ea_cons (ev_v (v := .int k) rfl) ea_nil) sp_isInt))) fun H1 e1 => ?_
  obtain ⟨x, dx, d, nm, pl, rw, rfl, h1, _⟩ := id hx
  have hx1 := Stab.st (nl_same e1) hx
  refine ⟨_, rfl, x, _, dx, _, _, 2, _, rfl, e1 _ _ h1, G.c_Table, G.h_Table_need_names, rfl, ok_Table_need_names G, by decide, _, rfl, .ref x, n, ps, a, zs, rfl, hx1, e1 _ _ ha, hz, fun H2 e2 => ?_⟩
  have e02 := e1.trans e2
  refine s_setNil fun f hf => ?_
  obtain ⟨r, hr1, hr2, hr3⟩ := tabR_rows G (Stab.st (nl_same e02) hx)
  have hr0 : EvP (tFld K (tVar 0) "rows") [some (.ref x), some (.int k), some (.ref a), some (.ref f), none, none] H2 (is (.ref r)) := hr1 _ _ (ev_v rfl)
  have sf : Same H2 (upd H2 f (.lst [])) := same_new hf
  refine s_forT (EvP.mono sf hr0) (sf _ _ hr2) (fun i σ H' => (∃ s4 s5, σ = [some (.ref x), some (.int k), some (.ref a), some (.ref f), s4, s5]) ∧ Same H2 H' ∧ ∃ vs, H' f = some (.lst vs) ∧ All2 (tripsQ K (((trs ps).map (mvT n k zs)).take i)) vs H') (fun H3 e3 => ⟨⟨_, _, rfl⟩, sf.trans e3, [], e3 _ _ upd_same, .nil⟩) (fun i σ H' p => p.2.1 _ _ hr2) ?_ ?_
  · rintro i v σ H5 ⟨⟨s4, s5, rfl⟩, e4, vs, hf4, hvs⟩ hv
    obtain ⟨ht, ht2⟩ := prs_at hr3 hv
    generalize ps.getD i default = p at ht ht2
    have htr : tripQ K p.2 v H5 := Mono.mono e4 ht.2
    have hpt : p.2 ∈ trs ps := List.mem_map_of_mem (List.mem_of_getElem? ht2)
    have e05 := e02.trans e4
    have hv4 : EvP (tVar 4) [some (.ref x), some (.int k), some (.ref a), some (.ref f), some v, s5] H5 (tripQ K p.2) := ev_var rfl htr
    have c1 := ev_op (ev_cb (ea_cons (ev_v (i := 2) (σ := [some (.ref x), some (.int k), some (.ref a), some (.ref f), some v, s5]) (H := H5) rfl) ea_nil) (cp_lenT (K := K) (e05 _ _ ha))) (ev_k (v := .int 0)) (rp_eq rfl)
    have c2 := ev_op (ev_tname G hv4) (ev_v (i := 2) (v := .ref a) rfl) (rp_inT (K := K) (neg := false) (x := .str p.2.name) (e05 _ _ ha) rfl flat_strs)
    rw [inV_dec] at c2
    refine s_set (ev_orV c1 fun _ => c2) fun b H6 e6 hb => ?_
    have hbv : b = .bl (decide (zs = [] ∨ p.2.name ∈ zs)) := by
      rw [show b = _ from hb]
      congr 1
      by_cases hz0 : zs = []
      · subst hz0; rfl
      · have : decide (V.int ((zs.map V.str).length : Nat) = V.int 0) = false := by
          refine decide_eq_false fun q => hz0 ?_
          injection q with q
          rw [List.length_map] at q
          exact List.length_eq_zero_iff.mp (by omega)
        rw [this]
        simp [hz0]
    subst hbv
    have mo := hok _ hpt
    have hv4' : EvP (tVar 4) [some (.ref x), some (.int k), some (.ref a), some (.ref f), some v, some (.bl (decide (zs = [] ∨ p.2.name ∈ zs)))] H6 (tripQ K p.2) := ev_var rfl (Mono.mono e6 htr)
    have h0' : EvP (tVar 0) [some (.ref x), some (.int k), some (.ref a), some (.ref f), some v, some (.bl (decide (zs = [] ∨ p.2.name ∈ zs)))] H6 (tabR K n ps) := ev_var rfl (Stab.st (nl_same (e05.trans e6)) hx)
    have hval : EvP (tIf (tB (tVar 5)) (tM (cxOf CX0 R.prog w K mg base ["self", "k", "names", "found", "trip", "is_moved"] "Table.moved" (defScope s_Table_moved) (f_Table_moved K) cdv A outer s H E0).nox 8 "timed" (tVar 4) (tCons (tOp (rI (fun _ j => 0 < j) fun i j => .int (i % j)) (tCB (fun xs H Q => (∃ i, xs = [.int i] ∧ Q (.int i) H) ∨ ∃ k, xs = [.bl k] ∧ Q (.int (if k then 1 else 0)) H) (tCons (tOp (rI0 fun i j => .int (i + j)) (tFld K (tVar 4) "leaves") (tVar 1)) tNil)) (tFld K (tFld K (tVar 0) "day") "length")) (tCons (tFld K (tVar 4) "takes") tNil))) (tVar 4))
        [some (.ref x), some (.int k), some (.ref a), some (.ref f), some v, some (.bl (decide (zs = [] ∨ p.2.name ∈ zs)))] H6 (tripQ K (mvT n k zs p.2)) := by
      by_cases hm : zs = [] ∨ p.2.name ∈ zs
      · have em : mvT n k zs p.2 = p.2.timed ((p.2.leaves + k) % n) p.2.takes := if_pos hm
        rw [em] at mo ⊢
        refine ev_if (et_B (ev_v rfl)) (fun _ => ?_) (fun q => absurd hm (of_decide_eq_false q))
        exact ev_m hv4' (ea_cons (ev_op (ev_cb (ea_cons (ev_op (ev_tleaves G hv4') (ev_v rfl) rp_I0) ea_nil) cp_int) (ev_fld (ev_tabday G h0') G.c_Day G.n_Day_length rfl) (rp_I (by omega))) (ea_cons (ev_ttakes G hv4') ea_nil)) (mp_timed G ⟨rfl, rfl, rfl⟩ mo)
      · have em : mvT n k zs p.2 = p.2 := if_neg hm
        rw [em]
        exact ev_if (et_B (ev_v rfl)) (fun q => absurd (of_decide_eq_true q) hm) fun _ => hv4'
    refine ⟨_, rfl, .inl ⟨rfl, _, SqL.of (e6 _ _ hf4)⟩, ?_⟩
    refine EvP.run hval fun y H7 e7 hy => ?_
    have e27 := (e4.trans e6).trans e7
    have hf7 := e7 _ _ (e6 _ _ hf4)
    have hlen := trips_len hvs
    have em : ((trs ps).map (mvT n k zs))[i]? = some (mvT n k zs p.2) := by rw [List.getElem?_map]; unfold trs; rw [List.getElem?_map, ht2]; rfl
    refine ⟨f, vs, y, rfl, rfl, hf7, small1000 ?_, ⟨_, _, rfl⟩, same_mut e27 hf, vs ++ [y], upd_same, ?_⟩
    · rw [hlen, List.length_take, List.length_map, trs_len]
      omega
    · rw [List.take_succ, em]
      unfold tripsQ at hvs ⊢
      rw [List.map_append]
      exact (StabL.st ((nl_same (e6.trans e7)).trans (nl_put hf7)) hvs).app (.cons (Stab.st (nl_put hf7) hy) .nil)
  · rintro σ H4 ⟨⟨s4, s5, rfl⟩, e4, vs, hf4, hvs⟩
    rw [refs_len, ← trs_len, ← List.length_map (f := mvT n k zs), List.take_length] at hvs
    have h0' : EvP (tVar 0) [some (.ref x), some (.int k), some (.ref a), some (.ref f), s4, s5] H4 (tabR K n ps) := ev_var rfl (Stab.st (nl_same (e02.trans e4)) hx)
    have h3' : EvP (tVar 3) [some (.ref x), some (.int k), some (.ref a), some (.ref f), s4, s5] H4 (lstQ (tripsQ K ((trs ps).map (mvT n k zs)))) := ev_var rfl ⟨f, vs, rfl, hf4, hvs⟩
    exact s_ret (ev_mk (ea_cons (ev_tabday G h0') (ea_starL h3' ea_nil)) (mk_tab (asT_app asT_trips asT_nil) hn (by rw [List.append_nil]; exact hp) ok)) fun v H5 e5 hv => kk v H5 ((e02.trans e4).trans e5) hv
end
end K22

set_option Elab.async false
set_option linter.all false
set_option pp.maxSteps 400
set_option maxRecDepth 100000
set_option maxHeartbeats 4000000
/-! C16: tables: scaled. -/
namespace K22
open PySem PySem.Spec PyProof.Rows L2
section
variable {w : World} {K : PySem.W.Frag} {mg : Str → Option Value} {base : Heap}
def scT (k : Int) (t : Tr) : Tr := t.timed (t.leaves * k) (t.takes * k)
def spScaled (K : PySem.W.Frag) : Sp := fun vs H Q _ => ∃ (x : V) (n k : Int) (ps : List (Addr × Tr)) (T : Tb), vs = [x, .int k] ∧ tabR K n ps x H ∧ ps.length ≤ 31 ∧ 1 ≤ n ∧ 1 ≤ k ∧ k ≤ 1000000000000 ∧ n * k ≤ 1000000000000 ∧ n * k = T.day ∧ (∀ t ∈ trs ps, (scT k t).Ok) ∧ ((trs ps).map (scT k)).Perm T.rows ∧ T.Ok ∧ ∀ v H', Same H H' → tabQ K T v H' → Q v H'
theorem sc_Table_scaled : FnScope ["self", "k", "trip", "found"] ["self", "k"] (defScope s_Table_scaled) := ⟨rfl, rfl, rfl, by decide +kernel, rfl, by decide +kernel, by decide +kernel⟩
theorem ok_Table_scaled (G : Fc K mg) : Fn R.prog w K mg base 9 (f_Table_scaled K) (spScaled K) := by
  refine fnA G.d_Table_scaled sc_Table_scaled (fun _ _ _ _ _ _ us hl => match us, hl with | [_, _], _ => rfl) (fun vs H Q h => ?_) (fun vs H Q E h => h) (fun cdv A outer s H vs Q hr h => ?_)
  · obtain ⟨x, n, k, ps, T, rfl, _⟩ := h
    rfl
  · obtain ⟨x, n, k, ps, T, rfl, hx, hl, hn1, hk1, hk2, hnk, hn, hok, hp, ok, kk⟩ := h
    have nd := sc_Table_scaled.nd
    obtain ⟨tk, hmost⟩ := G.i_MOST_NUMBER
    refine ⟨_, pss_cons (ps_if (PW.pt (pw_or (pt_not (pt_val (pe_f (ok_is_integer G) hr G.g_is_integer G.d_is_integer.choose_spec.kp (pa_cons (pv 1) pa_nil))))
        (pw_or (pt_cmpR op_lt (pv 1) pe_int (nomark _)) (pw_or1 (pt_cmpR op_gt (pe_op op_mul (pe_fld (pe_fld (pv 0) rfl) rfl) (pv 1)) (pe_glob (v := .int 1000000000000) (by rfl) hmost ⟨_, rfl⟩) (nomark _)))))) pss_never pss_nil) <|
      pss_cons (ps_for PassesOwn.never rfl (pi_tup (pe_fld (pv 0) rfl)) (pg_name (i := 2) nd rfl (Or.inl rfl))
        (pss_one (ps_if (pt_cmpR op_gt (pe_op op_mul (pe_fld (pv 2) rfl) (pv 1)) (pe_glob (v := .int 1000000000000) (by rfl) hmost ⟨_, rfl⟩) (nomark _)) pss_never pss_nil))) <|
      pss_cons (ps_setLc (i := 3) (te := tM (cxOf CX0 R.prog w K mg base ["self", "k", "trip", "found"] "Table.scaled" (defScope s_Table_scaled) (f_Table_scaled K) cdv A outer s H E0).nox 8 "timed" (tVar 2) (tCons (tOp (rI CMul fun i j => .int (i * j)) (tFld K (tVar 2) "leaves") (tVar 1)) (tCons (tOp (rI CMul fun i j => .int (i * j)) (tFld K (tVar 2) "takes") (tVar 1)) tNil)))
          (own := [("trip", 2)]) (g := gName 2) (by rfl) nd rfl rfl (sw_true rfl rfl rfl (by decide +kernel)) (pi_tup (pe_fld (pv 0) rfl)) (blkOk_by (own := [("trip", 2)]) (N := ["self", "k", "trip", "found"]) (sc := defScope s_Table_scaled) (by decide +kernel))
        (fun _ _ _ _ _ => pg_name (i := 2) nd rfl (Or.inl rfl)) (fun _ _ _ _ _ => pts_nil) (fun _ _ _ _ _ => pe_m hr (pv 2) (pa_cons (pe_op op_mul (pe_fld (pv 2) rfl) (pv 1)) (pa_cons (pe_op op_mul (pe_fld (pv 2) rfl) (pv 1)) pa_nil)))) <|
      pss_one (ps_ret (pe_mkS G.m_Table (ok_Table_init G) hr G.g_Table (pa_cons (pe_mk G.m_Day (ok_Day_init G) hr G.g_Day (pa_cons (pe_op op_mul (pe_fld (pe_fld (pv 0) rfl) rfl) (pv 1)) pa_nil)) (StX.pa_star (pv 3) pa_nil)))), ?_⟩
    have h0 : EvP (tVar 0) (start ["self", "k", "trip", "found"] [x, .int k]) H (tabR K n ps) := ev_var rfl hx
    have hkv : EvP (tVar 1) (start ["self", "k", "trip", "found"] [x, .int k]) H (is (.int k)) := ev_v rfl
    have cm : ∀ i : Int, CMul i k := fun i => .inr ⟨by omega, by omega⟩
    refine s_skip (et_eq (et_or (et_not (b := true) (et_B (ev_f (ea_cons hkv ea_nil) sp_isInt))) fun _ =>
      et_or (et_test (ev_op hkv (ev_k (v := .int 1)) (rp_I0 (g := fun i j => .bl (decide (i < j)))))) fun _ => et_test (ev_op (ev_op (ev_fld (ev_tabday G h0) G.c_Day G.n_Day_length rfl) hkv (rp_I (g := fun i j => .int (i * j)) (cm n))) (ev_k (v := .int 1000000000000)) (rp_I0 (g := fun i j => .bl (decide (j < i)))))) (by
        have d1 : decide (k < 1) = false := decide_eq_false (by omega)
        have d2 : decide ((1000000000000 : Int) < n * k) = false := decide_eq_false (by omega)
        rw [d1, d2]; rfl)) fun H1 e1 => ?_
    obtain ⟨r, hr1, hr2, hr3⟩ := tabR_rows G (Stab.st (nl_same e1) hx)
    have hok2 : ∀ t ∈ trs ps, t.takes * k ≤ 1000000000000 := fun t ht => (hok t ht).t1
    refine s_forT (hr1 _ _ (ev_v rfl)) hr2 (fun i σ H' => (∃ s2, σ = [some x, some (.int k), s2, none]) ∧ Same H1 H') (fun H2 e2 => ⟨⟨_, rfl⟩, e2⟩) (fun i σ H' p => p.2 _ _ hr2) ?_ ?_
    · rintro i v σ H2 ⟨⟨s2, rfl⟩, e2⟩ hv
      obtain ⟨ht, ht2⟩ := prs_at hr3 hv
      have hv2 : EvP (tVar 2) [some x, some (.int k), some v, none] H2 (tripQ K (ps.getD i default).2) := ev_var rfl (Mono.mono e2 ht.2)
      have hb := hok2 _ (List.mem_map_of_mem (List.mem_of_getElem? ht2))
      have t := ev_op (ev_op (ev_ttakes G hv2) (ev_v (i := 1) rfl) (rp_I (g := fun i j => .int (i * j)) (cm _))) (ev_k (v := .int 1000000000000)) (rp_I0 (g := fun i j => .bl (decide (j < i))))
      rw [decide_eq_false (by omega)] at t
      exact s_skip1 (et_test t) fun H3 e3 => ⟨⟨_, rfl⟩, e2.trans e3⟩
    · rintro σ H2 ⟨⟨s2, rfl⟩, e2⟩
      have hlc := ev_lcT (K := K) (g := gName 2) (vs := [2]) (tt := tYes) (te := tM (cxOf CX0 R.prog w K mg base ["self", "k", "trip", "found"] "Table.scaled" (defScope s_Table_scaled) (f_Table_scaled K) cdv A outer s H E0).nox 8 "timed" (tVar 2) (tCons (tOp (rI CMul fun i j => .int (i * j)) (tFld K (tVar 2) "leaves") (tVar 1)) (tCons (tOp (rI CMul fun i j => .int (i * j)) (tFld K (tVar 2) "takes") (tVar 1)) tNil)))
        (ei_tup (EvP.mono e2 (hr1 (tVar 0) [some x, some (.int k), s2, none] (ev_v rfl))) (e2 _ _ hr2)) (fun _ => true) (fun i => tripQ K (scT k (ps.getD i default).2)) (by rw [refs_len]; omega) fun i v hi => by
          obtain ⟨ht, ht2⟩ := prs_at hr3 hi
          have hv2 : EvP (tVar 2) [some x, some (.int k), some v, none] H2 (tripQ K (ps.getD i default).2) := ev_var rfl (Mono.mono e2 ht.2)
          have hkv : EvP (tVar 1) [some x, some (.int k), some v, none] H2 (is (.int k)) := ev_v rfl
          have mo := hok _ (List.mem_map_of_mem (List.mem_of_getElem? ht2))
          exact ⟨[some x, some (.int k), some v, none], rfl, fun H' R hR => hR, et_yes, fun _ => ev_m hv2 (ea_cons (ev_op (ev_tleaves G hv2) hkv (rp_I (cm _))) (ea_cons (ev_op (ev_ttakes G hv2) hkv (rp_I (cm _))) ea_nil)) (mp_timed G ⟨rfl, rfl, rfl⟩ mo)⟩
      rw [show keptQ (fun _ => true) (fun i => tripQ K (scT k (ps.getD i default).2)) (refs ps).length = tripsQ K ((trs ps).map (scT k)) by
        unfold tripsQ trs
        rw [refs_len, List.map_map, List.map_map]
        exact range_map1 ps default fun p => tripQ K (scT k p.2)] at hlc
      refine s_set hlc fun v H3 e3 hv => ?_
      have h0' : EvP (tVar 0) [some x, some (.int k), s2, some v] H3 (tabR K n ps) := ev_var rfl (Stab.st (nl_same ((e1.trans e2).trans e3)) hx)
      have h3' : EvP (tVar 3) [some x, some (.int k), s2, some v] H3 (lstQ (tripsQ K ((trs ps).map (scT k)))) := ev_var rfl hv
      have hday := ev_mk (ea_cons (ev_op (ev_fld (ev_tabday G h0') G.c_Day G.n_Day_length rfl) (ev_v (i := 1) (v := .int k) rfl) (rp_I (g := fun i j => .int (i * j)) (cm n))) ea_nil) (mk_day (K := K) (n := n * k) (Int.mul_pos (by omega) (by omega)) hnk)
      exact s_ret (ev_mk (ea_cons hday (ea_starL h3' ea_nil)) (mk_tab (asT_app asT_trips asT_nil) hn (by rw [List.append_nil]; exact hp) ok)) fun v H5 e5 hv => kk v H5 (((e1.trans e2).trans e3).trans e5) hv
end
end K22

set_option Elab.async false
set_option linter.all false
set_option pp.maxSteps 400
set_option maxRecDepth 100000
set_option maxHeartbeats 4000000
/-! R12: == of dicts of ints, whatever it answers. -/
namespace K22
open PySem PySem.Spec PyProof.Rows L2
def eqKv (ks ls : List (Key × V)) : Bool := ks.length == ls.length && ks.all fun p => decide (valV ls p.1 = some p.2)
theorem hits_int {A : Around} {s : Shared} {kvs : List (Key × V)} {vb : List (Key × Value)} (rb : KV kvs vb) (hb : ∀ k v, valV kvs k = some v → ∃ i, v = .int i) {ks : List (Key × V)} {va : List (Key × Value)} (ra : KV ks va) :
    (∀ p ∈ ks, ∃ i, p.2 = .int i) → PySem.W.KeqHits A s vb va (ks.all fun p => decide (valV kvs p.1 = some p.2)) := by
  unfold KV at ra
  induction ra with
  | nil => intro _; exact .nil
  | @cons p q ps qs h t ih =>
    intro hp
    obtain ⟨h1, h2⟩ := h
    obtain ⟨i, hi⟩ := hp p List.mem_cons_self
    obtain ⟨k, v⟩ := q
    have h1' : p.1 = k := h1
    have rr : RelO (valV kvs p.1) (valueAt vb p.1) := rb.val p.1
    rw [List.all_cons]
    have ih' := ih fun p' hm => hp p' (List.mem_cons_of_mem _ hm)
    cases hv : valV kvs p.1 with
    | none =>
      rw [hv] at rr
      have hn : valueAt vb p.1 = none := by
        cases q : valueAt vb p.1 with
        | none => rfl
        | some y => rw [q] at rr; exact rr.elim
      rw [h1'] at hn
      have e : decide ((none : Option V) = some p.2) = false := decide_eq_false (fun z => nomatch z)
      rw [e, Bool.false_and]
      exact .miss hn
    | some y =>
      obtain ⟨j, rfl⟩ := hb _ _ hv
      rw [hv] at rr
      obtain ⟨y, hy, ry⟩ := rr.some_of
      rw [h1'] at hy
      obtain ⟨t1, rfl⟩ := (show ∃ t, y = Value.int j t from ry)
      rw [hi] at h2
      obtain ⟨t2, e2⟩ := (show ∃ t, v = Value.int i t from h2)
      subst e2
      have e : decide (some (V.int j) = some p.2) = (i == j) := by
        rw [hi]
        by_cases q : i = j
        · subst q; simp
        · rw [decide_eq_false (fun z => q (by injection z with z; injection z with z; exact z.symm))]
          simp [q]
      rw [e]
      exact .hit hy (SeqAt.EqAt.int_int i t2 j t1) ih'
section
variable {X : Cx}
def rEqDI : R2 := fun x y H Q => ∃ a b ks ls, x = .ref a ∧ y = .ref b ∧ H a = some (.dK ks) ∧ H b = some (.dK ls) ∧ (∀ p ∈ ks, ∃ i, p.2 = .int i) ∧ (∀ k v, valV ls k = some v → ∃ i, v = .int i) ∧ Q (.bl (eqKv ks ls)) H
theorem op_eqDI (hu : X.A.units < cLine) : OpR X (compareOp .Eq) rEqDI := by
  intro pins s σ H x y v u Q I rx ry h
  obtain ⟨a, b, ks, ls, rfl, rfl, ea, eb, hk, hl, q⟩ := h
  obtain rfl : v = Value.ref a := rx
  obtain rfl : u = Value.ref b := ry
  obtain ⟨_, ya, va, ra, da⟩ := (show ObjOk X.prog X.w H s.heap a (.dK ks) from I.hok a _ ea)
  obtain ⟨_, yb, vb, rb, db⟩ := (show ObjOk X.prog X.w H s.heap b (.dK ls) from I.hok b _ eb)
  exact PySem.W.keq_eq (knd := mixKind X.prog X.w) ya yb da db hu (fun _ => hits_int rb hl ra hk) (fin_bl I q (by unfold eqKv; rw [ra.length, rb.length]))
end
end K22

set_option Elab.async false
set_option linter.all false
set_option pp.maxSteps 400
set_option maxRecDepth 100000
set_option maxHeartbeats 4000000
/-! M2: plain: pauses. -/
namespace K22
open PySem PySem.Spec PyProof.Rows L2
abbrev Pz := List (Str × Int)
def look (l : Pz) (z : Str) : Int := ((l.find? fun p => decide (p.1 = z)).map (·.2)).getD 0
def keysP (l : Pz) : List Str := l.map (·.1)
def pzV (l : Pz) : List (Str × V) := l.map fun p => (p.1, V.int p.2)
theorem pzV_keys (l : Pz) : (pzV l).map (·.1) = keysP l := by unfold pzV keysP; rw [List.map_map]; rfl
theorem pzV_len (l : Pz) : (pzV l).length = l.length := List.length_map _
theorem pzV_val (l : Pz) (z : Str) : valV (inrs (pzV l)) (Sum.inr z : Key) = (l.find? fun p => decide (p.1 = z)).map fun p => V.int p.2 := by
  unfold valV inrs pzV
  rw [List.map_map, List.find?_map, Option.map_map]
  have : ((fun kv : Key × V => decide (kv.1 = Sum.inr z)) ∘ ((fun p : Str × V => ((Sum.inr p.1 : Key), p.2)) ∘ fun p : Str × Int => (p.1, V.int p.2))) = fun p => decide (p.1 = z) := by
    funext p
    show decide ((Sum.inr p.1 : Key) = Sum.inr z) = decide (p.1 = z)
    exact decide_eq_decide.mpr ⟨fun h => by injection h, fun h => by rw [h]⟩
  rw [this]
  rfl
theorem look_nil (z : Str) : look [] z = 0 := rfl
theorem look_cons (p : Str × Int) (l : Pz) (z : Str) : look (p :: l) z = if p.1 = z then p.2 else look l z := by
  unfold look
  by_cases h : p.1 = z
  · rw [if_pos h, List.find?_cons_of_pos (by simp [h])]; rfl
  · rw [if_neg h, List.find?_cons_of_neg (by simp [h])]
theorem look_not {l : Pz} {z : Str} (h : z ∉ keysP l) : look l z = 0 := by
  induction l with
  | nil => rfl
  | cons p l ih =>
    rw [look_cons, if_neg (fun e => h (by rw [← e]; exact .head _)), ih fun m => h (.tail _ m)]
theorem look_mem {l : Pz} (nd : (keysP l).Nodup) {p : Str × Int} (h : p ∈ l) : look l p.1 = p.2 := by
  induction l with
  | nil => cases h
  | cons q l ih =>
    obtain ⟨n1, n2⟩ := List.nodup_cons.mp nd
    rw [look_cons]
    rcases List.mem_cons.mp h with e | h
    · rw [e, if_pos rfl]
    · rw [if_neg (fun e => n1 (by show q.1 ∈ _; rw [e]; exact List.mem_map_of_mem h)), ih n2 h]
theorem look_at {l : Pz} {z : Str} (h : z ∈ keysP l) : ∃ p ∈ l, p.1 = z ∧ look l z = p.2 := by
  induction l with
  | nil => cases h
  | cons q l ih =>
    rw [look_cons]
    by_cases e : q.1 = z
    · exact ⟨q, .head _, e, if_pos e⟩
    · rcases List.mem_cons.mp h with e2 | h
      · exact absurd e2.symm e
      · obtain ⟨p, hp, h1, h2⟩ := ih h
        exact ⟨p, .tail _ hp, h1, by rw [if_neg e, h2]⟩
theorem pzV_look {l : Pz} {z : Str} (h : z ∈ keysP l) : valV (inrs (pzV l)) (Sum.inr z : Key) = some (.int (look l z)) := by
  rw [pzV_val]
  unfold look
  cases e : l.find? fun p => decide (p.1 = z) with
  | none =>
    obtain ⟨p, hp, e2⟩ := List.mem_map.mp h
    have := List.find?_eq_none.mp e p hp
    simp [e2] at this
  | some p => rfl
theorem pzV_none {l : Pz} {z : Str} (h : z ∉ keysP l) : valV (inrs (pzV l)) (Sum.inr z : Key) = none := by
  rw [pzV_val]
  cases e : l.find? fun p => decide (p.1 = z) with
  | none => rfl
  | some p =>
    have h1 := List.mem_of_find?_eq_some e
    have h2 := List.find?_some e
    exact absurd (by rw [← of_decide_eq_true h2]; exact List.mem_map_of_mem h1) h
/-- as an object holds them -/
structure Pz.Ok (l : Pz) : Prop where
  srt : (keysP l).Pairwise (fun a b => sLt a b = true)
  nm : ∀ z ∈ keysP l, nameOk z = true
  lo : ∀ p ∈ l, 1 ≤ p.2
  hi : ∀ p ∈ l, p.2 ≤ 1000000000000
  len : l.length ≤ 60
/-- as they are given -/
structure Pz.Raw (l : Pz) : Prop where
  nd : (keysP l).Nodup
  nm : ∀ z ∈ keysP l, nameOk z = true
  lo : ∀ p ∈ l, 0 ≤ p.2
  hi : ∀ p ∈ l, p.2 ≤ 1000000000000
  len : l.length ≤ 60
theorem Pz.Ok.raw {l : Pz} (h : l.Ok) : l.Raw := ⟨strict_nd h.srt, h.nm, fun p hp => Int.le_trans (by decide) (h.lo p hp), h.hi, h.len⟩
theorem Pz.Ok.mem {l : Pz} (h : l.Ok) {z : Str} : z ∈ keysP l ↔ look l z ≠ 0 := by
  constructor
  · intro hz
    obtain ⟨p, hp, e, e2⟩ := look_at hz
    have := h.lo p hp
    rw [e2]
    omega
  · intro hz
    by_cases q : z ∈ keysP l
    · exact q
    · exact absurd (look_not q) hz
theorem keys_look : ∀ {l : Pz}, (keysP l).Nodup → l = (keysP l).map fun z => (z, look l z)
  | [], _ => rfl
  | p :: l, nd => by
    obtain ⟨n1, n2⟩ := List.nodup_cons.mp nd
    show p :: l = (p.1, look (p :: l) p.1) :: (keysP l).map fun z => (z, look (p :: l) z)
    rw [look_cons, if_pos rfl]
    congr 1
    have e : ((keysP l).map fun z => (z, look (p :: l) z)) = (keysP l).map fun z => (z, look l z) := by
      refine List.map_congr_left fun z hz => ?_
      rw [look_cons, if_neg (fun e : p.1 = z => n1 (by show p.1 ∈ _; rw [e]; exact hz))]
    rw [e]
    exact keys_look n2
theorem pz_ext {l m : Pz} (h1 : l.Ok) (h2 : m.Ok) (h : ∀ z, look l z = look m z) : l = m := by
  have hk : keysP l = keysP m := strict_unique h1.srt h2.srt fun z => by rw [h1.mem, h2.mem, h]
  rw [keys_look (strict_nd h1.srt), keys_look (strict_nd h2.srt), hk]
  exact List.map_congr_left fun z _ => by rw [h]
def norm (l : Pz) : Pz := ((sortT (keysP l)).map fun z => (z, look l z)).filter fun p => !decide (p.2 = 0)
theorem mem_norm {l : Pz} {p : Str × Int} : p ∈ norm l ↔ p.1 ∈ keysP l ∧ p.2 = look l p.1 ∧ p.2 ≠ 0 := by
  unfold norm
  rw [List.mem_filter, List.mem_map]
  constructor
  · rintro ⟨⟨z, hz, rfl⟩, h⟩
    exact ⟨(sortT_perm _).mem_iff.mp hz, rfl, by simpa using h⟩
  · rintro ⟨h1, h2, h3⟩
    exact ⟨⟨p.1, (sortT_perm _).mem_iff.mpr h1, by rw [← h2]⟩, by simpa using h3⟩
theorem norm_keys_sub (l : Pz) : (keysP (norm l)).Sublist (sortT (keysP l)) := by
  unfold norm keysP
  have h1 := (List.filter_sublist (p := fun p : Str × Int => !decide (p.2 = 0)) (l := (sortT (l.map (·.1))).map fun z => (z, look l z))).map (·.1)
  rw [List.map_map] at h1
  have e : ((fun x : Str × Int => x.1) ∘ fun z => (z, look l z)) = id := rfl
  rw [e, List.map_id] at h1
  exact h1
theorem Pz.Raw.norm {l : Pz} (h : l.Raw) : (norm l).Ok where
  srt := (strict_of (sortT_pw _) ((sortT_perm _).nodup_iff.mpr h.nd)).sublist (norm_keys_sub l)
  nm := fun z hz => h.nm z ((sortT_perm _).mem_iff.mp ((norm_keys_sub l).subset hz))
  lo := fun p hp => by
    obtain ⟨h1, h2, h3⟩ := mem_norm.mp hp
    obtain ⟨q, hq, e, e2⟩ := look_at h1
    have := h.lo q hq
    omega
  hi := fun p hp => by
    obtain ⟨h1, h2, h3⟩ := mem_norm.mp hp
    obtain ⟨q, hq, e, e2⟩ := look_at h1
    have := h.hi q hq
    omega
  len := by
    have h1 := (norm_keys_sub l).length_le
    rw [(sortT_perm _).length_eq] at h1
    unfold keysP at h1
    rw [List.length_map, List.length_map] at h1
    exact Nat.le_trans h1 h.len
theorem look_norm {l : Pz} (h : l.Raw) (z : Str) : look (norm l) z = look l z := by
  by_cases hz : z ∈ keysP (norm l)
  · obtain ⟨p, hp, e, e2⟩ := look_at hz
    obtain ⟨h1, h2, h3⟩ := mem_norm.mp hp
    rw [e2, h2, e]
  · rw [look_not hz]
    by_cases q : look l z = 0
    · exact q.symm
    · have hk : z ∈ keysP l := by
        by_cases m : z ∈ keysP l
        · exact m
        · exact absurd (look_not m) q
      exact absurd (List.mem_map.mpr ⟨(z, look l z), mem_norm.mpr ⟨hk, rfl, q⟩, rfl⟩) hz
theorem norm_self {l : Pz} (h : l.Ok) : norm l = l := pz_ext h.raw.norm h fun z => look_norm h.raw z
theorem eqKv_iff {l m : Pz} (h1 : l.Ok) (h2 : m.Ok) : eqKv (inrs (pzV l)) (inrs (pzV m)) = decide (l = m) := by
  refine Bool.eq_iff_iff.mpr ?_
  rw [decide_eq_true_iff]
  unfold eqKv
  rw [Bool.and_eq_true, List.all_eq_true]
  constructor
  · rintro ⟨hl, ha⟩
    have hlen : l.length = m.length := by simpa [inrs, pzV] using hl
    have hsub : ∀ p ∈ l, p.1 ∈ keysP m ∧ look m p.1 = p.2 := by
      intro p hp
      have := ha ((Sum.inr p.1 : Key), V.int p.2) (by
        unfold inrs pzV
        rw [List.map_map]
        exact List.mem_map.mpr ⟨p, hp, rfl⟩)
      have e := of_decide_eq_true this
      by_cases hk : p.1 ∈ keysP m
      · rw [pzV_look hk] at e
        injection e with e
        injection e with e
        exact ⟨hk, e⟩
      · rw [pzV_none hk] at e
        cases e
    have hp := perm_of_mem (strict_nd h1.srt) (ks := keysP m) (fun z hz => by
      obtain ⟨p, hp, rfl⟩ := List.mem_map.mp hz
      exact (hsub p hp).1) (by unfold keysP; rw [List.length_map, List.length_map]; exact hlen.symm)
    refine pz_ext h1 h2 fun z => ?_
    by_cases hz : z ∈ keysP l
    · obtain ⟨p, hp, e, e2⟩ := look_at hz
      rw [e2, ← e, (hsub p hp).2]
    · rw [look_not hz, look_not fun q => hz (hp.mem_iff.mpr q)]
  · rintro rfl
    refine ⟨by simp, fun q hq => ?_⟩
    unfold inrs pzV at hq
    rw [List.map_map] at hq
    obtain ⟨p, hp, rfl⟩ := List.mem_map.mp hq
    refine decide_eq_true ?_
    show valV (inrs (pzV l)) (Sum.inr p.1 : Key) = some (V.int p.2)
    rw [pzV_look (List.mem_map_of_mem hp), look_mem (strict_nd h1.srt) hp]
end K22

set_option Elab.async false
set_option linter.all false
set_option pp.maxSteps 400
set_option maxRecDepth 100000
set_option maxHeartbeats 4000000
/-! P1: pauses made. -/
namespace K22
open PySem PySem.Spec PyProof.Rows L2
section
variable {w : World} {K : PySem.W.Frag} {mg : Str → Option Value} {base : Heap}
def spAlone : Sp := fun vs H Q _ => ∃ (d : Addr) (kvs : List (Str × V)), vs = [.ref d] ∧ H d = some (.dK (inrs kvs)) ∧ kvs.length ≤ 1000 ∧ (∀ p ∈ kvs, nameOk p.1 = true) ∧ ∀ H', Same H H' → Q .non H'
theorem sc_need_names_alone : FnScope ["places", "key"] ["places"] (defScope s_need_names_alone) := ⟨rfl, rfl, rfl, by decide +kernel, rfl, by decide +kernel, by decide +kernel⟩
theorem same_lock {H H' : Hp} {d : Addr} {u o : HO} (hd : H d = some u) (e : ∀ b q, b ≠ d → H b = some q → H' b = some q) : Same H (upd H' d u) := fun b q hb => by
  by_cases h : b = d
  · subst h; rw [upd_same, ← hb, hd]
  · rw [upd_ne h]; exact e b q h hb
theorem sp_isName {z : Str} {H : Hp} (hz : nameOk z = true) : SP spName [is (.str z)] H (is (.bl true)) := fun H1 e vs hv Q k => by
  have ev := all2_is (xs := [.str z]) hv
  subst ev
  exact ⟨z, rfl, hz, fun H' e' => k _ H' e' rfl⟩
theorem sp_isNum {i : Int} {H : Hp} (h0 : 0 ≤ i) (h1 : i ≤ 1000000000000) : SP spNumber [is (.int i)] H (is (.bl true)) := fun H1 e vs hv Q k => by
  have ev := all2_is (xs := [.int i]) hv
  subst ev
  exact ⟨i, rfl, h0, h1, k _ H1 (Same.refl H1) rfl⟩
theorem ok_need_names_alone (G : Fc K mg) : Fn R.prog w K mg base 2 (f_need_names_alone K) spAlone := by
  refine fnA G.d_need_names_alone sc_need_names_alone (fun _ _ _ _ _ _ us hl => match us, hl with | [_], _ => rfl) (fun vs H Q h => ?_) (fun vs H Q E h => h) (fun cdv A outer s H vs Q hr h => ?_)
  · obtain ⟨d, kvs, rfl, _⟩ := h
    rfl
  · obtain ⟨d, kvs, rfl, hd, hl, hn, k⟩ := h
    have nd := sc_need_names_alone.nd
    refine ⟨_, pss_one (ps_lock (ps_for PassesOwn.never rfl (pi_keys (pv 0)) (pg_name (i := 1) nd rfl (Or.inl rfl)) (pss_one (ps_if (pt_not (pt_val (pe_f (ok_is_name G) hr G.g_is_name G.d_is_name.choose_spec.kp (pa_cons (pv 1) pa_nil)))) pss_never pss_nil)))), ?_⟩
    refine ⟨d, _, hd, trivial, fun od => ⟨_, rfl, d, od, rfl, .inl ⟨_, upd_same, ?_⟩⟩⟩
    refine for_it (walk_keys (d := d) (o := od) (kvs := inrs kvs)) (fun i σ H' => (∃ s1, σ = [some (.ref d), s1]) ∧ (∀ b o, b ≠ d → H b = some o → H' b = some o) ∧ H' d = some (.frz od (.dK (inrs kvs)))) ⟨⟨_, rfl⟩, fun b o hb h => by rw [upd_ne hb]; exact h, upd_same⟩ (fun i σ H' _ p => p.2.2) ?_ ?_
    · rintro i v σ H1 H2 hi ⟨⟨s1, rfl⟩, e1, hd1⟩ ⟨rfl, key, u, hk, rfl⟩
      have hm := List.mem_of_getElem? hk
      obtain ⟨p, hp, e⟩ := List.mem_map.mp hm
      injection e with e3 e4
      subst e3
      refine s_skip1 (et_not (b := true) (et_B (ev_f (ea_cons (ev_v (i := 1) (v := .str p.1) rfl) ea_nil) (sp_isName (hn p hp))))) fun H3 e3 => ⟨⟨_, rfl⟩, fun b o hb h => e3 _ _ (e1 b o hb h), e3 _ _ hd1⟩
    · rintro σ H1 ⟨⟨s1, rfl⟩, e1, hd1⟩
      exact ⟨hd1, k _ (same_lock (o := .dK []) hd e1)⟩
theorem sp_alone {d : Addr} {kvs : List (Str × V)} {H : Hp} (hd : H d = some (.dK (inrs kvs))) (hl : kvs.length ≤ 1000) (hn : ∀ p ∈ kvs, nameOk p.1 = true) : SP spAlone [is (.ref d)] H (is .non) := fun H1 e vs hv Q k => by
  have ev := all2_is (xs := [.ref d]) hv
  subst ev
  exact ⟨d, kvs, rfl, e _ _ hd, hl, hn, fun H' e' => k _ H' e' rfl⟩
/-- pauses -/
def pauAt (K : PySem.W.Frag) (l : Pz) (x : Addr) (H : Hp) : Prop := ∃ dx d r, H x = some (.ins (cPauses K) dx [("numbers", .ref d), ("rows", r)]) ∧ H d = some (.dK (inrs (pzV l))) ∧ tupQ (txQ (keysP l)) r H
def pauQ (K : PySem.W.Frag) (l : Pz) : VQ := fun v H => ∃ x, v = .ref x ∧ pauAt K l x H
instance {l : Pz} : Stab (pauQ K l) := ⟨fun e ⟨x, h, dx, d, r, h1, h2, h3⟩ => ⟨x, h, dx, d, r, e.ins h1, e.dK h2, Stab.st e h3⟩⟩
theorem s_forX {te : TE} {zs : List Str} {g : TG} {tb u : TS} {D : Ends} {σ : L2.St} {H : Hp} (he : EvP te σ H (lstQ (txQ zs))) (Pv : Addr → Nat → L2.St → Hp → Prop) (h0 : ∀ r H1, Same H H1 → H1 r = some (.lst (zs.map V.str)) → Pv r 0 σ H1) (hG : ∀ r i σ H', Pv r i σ H' → H' r = some (.lst (zs.map V.str)))
    (hs : ∀ r i z σ H', Pv r i σ H' → zs[i]? = some z → g (.str z) σ H' fun σ2 H2 => tb { D with nx := Pv r (i + 1), ct := Pv r (i + 1), bk := u D } σ2 H2) (hd : ∀ r σ H', Pv r zs.length σ H' → u D σ H') : tSeq (tFor (iList K te) g tb) u D σ H := he H (Same.refl H) _ fun v H1 e1 ⟨r, vs, hv, hr, hvs⟩ => by
  rw [txQ_all hvs] at hr
  refine ⟨r, hv, ⟨_, SqL.of hr⟩, for_it (D := { D with nx := u D }) (walk_list (K := K) (a := r) (xs := zs.map V.str)) (Pv r) (h0 r H1 e1 hr) (fun i σ H' _ p => SqL.of (hG r i σ H' p)) (fun i x σ H' H2 hi p ⟨e, hx⟩ => ?_) (fun σ H' p => hd r σ H' (by rw [List.length_map] at p; exact p))⟩
  subst e
  rw [List.getElem?_map] at hx
  cases q : zs[i]? with
  | none => rw [q] at hx; cases hx
  | some z =>
    rw [q] at hx
    cases hx
    exact hs r i z σ H2 p q
theorem cp_listD {d : Addr} {kvs : List (Str × V)} {H : Hp} (hd : H d = some (.dK (inrs kvs))) : CP (fun xs H Q => ∃ (a : Addr) (kvs : List (Key × V)), xs = [.ref a] ∧ Rd H a (.dK kvs) ∧ ∀ p, H p = none → Q (.ref p) (upd H p (.lst (kvs.map fun kv => kV kv.1)))) [is (.ref d)] H (lstQ (txQ (kvs.map (·.1)))) := fun H1 e vs hv Q k => by
  have ev := all2_is (xs := [.ref d]) hv
  subst ev
  refine ⟨d, _, rfl, .inl (e _ _ hd), fun p hp => k _ _ (same_new hp) ⟨p, _, rfl, upd_same, ?_⟩⟩
  have : (inrs kvs).map (fun kv => kV kv.1) = (kvs.map (·.1)).map V.str := by
    unfold inrs
    rw [List.map_map, List.map_map]
    rfl
  rw [this]
  exact all_txQ
def partN (l : Pz) (i : Nat) : Pz := (((sortT (keysP l)).take i).map fun z => (z, look l z)).filter fun p => !decide (p.2 = 0)
theorem partN_succ {l : Pz} {i : Nat} {z : Str} (h : (sortT (keysP l))[i]? = some z) : partN l (i + 1) = partN l i ++ (if look l z = 0 then [] else [(z, look l z)]) := by
  unfold partN
  rw [List.take_succ, h, List.map_append, List.filter_append]
  congr 1
  show List.filter _ [(z, look l z)] = _
  rw [List.filter_cons]
  by_cases q : look l z = 0
  · rw [if_pos q, if_neg (by simp [q])]; rfl
  · rw [if_neg q, if_pos (by simp [q])]; rfl
theorem partN_keys {l : Pz} {i : Nat} : (keysP (partN l i)).Sublist ((sortT (keysP l)).take i) := by
  unfold partN keysP
  have h1 := (List.filter_sublist (p := fun p : Str × Int => !decide (p.2 = 0)) (l := ((sortT (l.map (·.1))).take i).map fun z => (z, look l z))).map (·.1)
  rw [List.map_map] at h1
  have e : ((fun x : Str × Int => x.1) ∘ fun z => (z, look l z)) = id := rfl
  rw [e, List.map_id] at h1
  exact h1
theorem partN_len {l : Pz} (h : l.Raw) (i : Nat) : (partN l i).length ≤ 60 := by
  have h1 := (partN_keys (l := l) (i := i)).length_le
  unfold keysP at h1
  rw [List.length_map, List.length_take, (sortT_perm _).length_eq, List.length_map] at h1
  have := h.len
  omega
theorem flds2 (a b : V) : putF "rows" b (putF "numbers" a []) = ([("numbers", a), ("rows", b)] : List (Str × V)) := by
  have h1 : ¬ (("numbers" : Str) = "rows") := by decide +kernel
  simp only [putF, if_neg h1]
def spPauB (K : PySem.W.Frag) : Sp := fun vs H Q _ => ∃ (x dx D : Addr) (l : Pz), vs = [.ref x, .ref D] ∧ H x = some (.ins (cPauses K) dx []) ∧ H D = some (.dK (inrs (pzV l))) ∧ l.Raw ∧ ∀ H', KeepX x H H' → pauAt K (norm l) x H' → Q .non H'
def spPauI (K : PySem.W.Frag) : V → List (Str × V) → Hp → VK → Prop := fun v kvs H Q => ∃ (x dx : Addr) (l : Pz), v = .ref x ∧ kvs = pzV l ∧ H x = some (.ins (cPauses K) dx []) ∧ l.Raw ∧ ∀ H', KeepX x H H' → pauAt K (norm l) x H' → Q .non H'
theorem sc_Pauses_init : FnScope ["this_one", "places", "found", "place"] ["this_one", "places"] (defScope s_Pauses_init) := ⟨rfl, rfl, rfl, by decide +kernel, rfl, by decide +kernel, by decide +kernel⟩
theorem ok_Pauses_init (G : Fc K mg) : FnKw R.prog w K mg base 5 (f_Pauses_init K) (spPauI K) := by
  obtain ⟨fd, F⟩ := G.d_Pauses_init
  obtain ⟨oc, od, dV, kV, doc, pm, an, cdv, ct, osl, rfl, lk, hcd, hD, _⟩ := F.ex
  rcases hD with ⟨_, rfl⟩ | ⟨hne, _⟩
  · refine fn_kw (pa := "this_one") (pk := "places") (k := 4) (spB := spPauB K) (N := ["this_one", "places", "found", "place"]) lk hcd sc_Pauses_init (fun v kvs H Q h => ?_) (fun A outer s H vs Q hr h => ?_)
    · obtain ⟨x, dx, l, rfl, rfl, hx, raw, k⟩ := h
      refine ⟨fun p hp e => ?_, by rw [pzV_len]; have := raw.len; omega, by rw [pzV_keys]; exact raw.nd, fun D hD => ⟨x, dx, D, l, rfl, same_new hD _ _ hx, upd_same, raw, fun H' kp => k H' (KeepX.trans (Same.keepX (same_new hD)) kp)⟩⟩
      have hm : p.1 ∈ keysP l := by rw [← pzV_keys]; exact List.mem_map_of_mem hp
      have := raw.nm _ hm
      rw [e] at this
      exact absurd this (by decide +kernel)
    · obtain ⟨x, dx, D, l, rfl, hx, hD, raw, k⟩ := h
      have nd := sc_Pauses_init.nd
      have hu := hu_of hr
      refine ⟨_, pss_cons (ps_expr (pe_f (ok_need_names_alone G) hr G.g_need_names_alone G.d_need_names_alone.choose_spec.kp (pa_cons (pv 1) pa_nil))) <|
        pss_cons (ps_set (i := 2) nd rfl (Or.inl rfl) pe_dnewK) <|
        pss_cons (ps_for PassesOwn.never rfl (pi_list (pe_callB cr_sortedS (by rfl) G.b_sorted (by decide +kernel) (pa_cons (pe_lock (pe_lc (te := tCB (fun xs H Q => ∃ a, xs = [.str a] ∧ Q (.str a) H) (tCons (tVar 3) tNil)) (own := [("place", 3)]) (g := gName 3) (by rfl) nd (pi_keys (pv 1)) (blkOk_by (own := [("place", 3)]) (N := ["this_one", "places", "found", "place"]) (sc := defScope s_Pauses_init) (by decide +kernel))
            (fun _ _ _ _ _ => pg_name (i := 3) nd rfl (Or.inl rfl)) (fun _ _ _ _ _ => pts_nil) (fun _ _ _ _ _ => pe_callTy SkE.call_str_str (by rfl) G.b_str (by decide +kernel) (pa_cons (pv 3) pa_nil)))) pa_nil))) (pg_name (i := 3) nd rfl (Or.inl rfl))
          (pss_cons (ps_if (pt_not (pt_val (pe_f (ok_is_number G) hr G.g_is_number G.d_is_number.choose_spec.kp (pa_cons (pe_dget hu (pv 1) (pv 3) (fun _ _ => rfl)) pa_nil)))) pss_never pss_nil) <|
           pss_one (ps_if (pt_cmpR op_ne (pe_dget hu (pv 1) (pv 3) (fun _ _ => rfl)) pe_int (nomark _)) (pss_one (ps_dput hu (pv 2) (pv 3) (pe_dget hu (pv 1) (pv 3) (fun _ _ => rfl)) rfl)) pss_nil))) <|
        pss_cons (ps_fld (pv 0) (pv 2) rfl) <|
        pss_one (ps_fld (pv 0) (pe_callTy call_tuple_of (by rfl) G.b_tuple (by decide +kernel) (pa_cons (pe_callTy (call_listD (by rfl)) (by rfl) G.b_list (by decide +kernel) (pa_cons (pv 2) pa_nil)) pa_nil)) rfl), ?_⟩
      have hkz := raw.len
      have hkl : (keysP l).length ≤ 60 := by unfold keysP; rw [List.length_map]; exact hkz
      have hnz : (sortT (keysP l)).Nodup := (sortT_perm _).nodup_iff.mpr raw.nd
      refine EvP.run (ev_f (ea_cons (ev_v (v := .ref D) rfl) ea_nil) (sp_alone hD (by rw [pzV_len]; omega) fun p hp => raw.nm _ (by rw [← pzV_keys]; exact List.mem_map_of_mem hp))) fun _ H1 e1 _ => ?_
      intro f hf
      have sf : Same H1 (upd H1 f (.dK [])) := same_new hf
      have hD1 := sf _ _ (e1 _ _ hD)
      have hkeys := ev_keysStr (σ := [some (.ref x), some (.ref D), some (.ref f), none]) (i := 1) (j := 3) rfl rfl (by show 3 < 4; omega) hD1 (by rw [pzV_len]; omega)
      rw [pzV_keys] at hkeys
      refine s_forX (ev_cb (ea_cons hkeys ea_nil) (cp_sorted (K := K) (by omega))) (fun r i σ H' => (∃ s3, σ = [some (.ref x), some (.ref D), some (.ref f), s3]) ∧ Same H1 H' ∧ H' r = some (.lst ((sortT (keysP l)).map V.str)) ∧ H' f = some (.dK (inrs (pzV (partN l i))))) (fun r H2 e2 hr2 => ⟨⟨_, rfl⟩, sf.trans e2, hr2, e2 _ _ upd_same⟩) (fun r i σ H' p => p.2.2.1) ?_ ?_
      · rintro r i z σ H2 ⟨⟨s3, rfl⟩, e2, hr2, hf2⟩ hz
        have hzk : z ∈ keysP l := (sortT_perm _).mem_iff.mp (List.mem_of_getElem? hz)
        obtain ⟨p, hp, _, hpv⟩ := look_at hzk
        have b0 := raw.lo p hp
        have b1 := raw.hi p hp
        have get : ∀ H3, Same H2 H3 → EvP (tDGet (tVar 1) (tVar 3)) [some (.ref x), some (.ref D), some (.ref f), some (.str z)] H3 (is (.int (look l z))) := fun H3 e3 => ev_dget (e3 _ _ (e2 _ _ (e1 _ _ hD))) (ev_v rfl) (ev_v rfl) (pzV_look hzk) rfl
        refine s_skip (et_not (b := true) (et_B (ev_f (ea_cons (get H2 (Same.refl _)) ea_nil) (sp_isNum (by omega) (by omega))))) fun H3 e3 => ?_
        refine et_test (ev_op (get H3 e3) (ev_k (v := .int 0)) (rp_ne rfl)) H3 (Same.refl _) _ fun H4 e4 => ?_
        have e24 := e3.trans e4
        by_cases q : look l z = 0
        · rw [q]
          refine ⟨⟨_, rfl⟩, e2.trans e24, e24 _ _ hr2, ?_⟩
          rw [partN_succ hz, if_pos q, List.append_nil]
          exact e24 _ _ hf2
        · have : (!decide (V.int (look l z) = V.int 0)) = true := by
            rw [decide_eq_false (fun h => q (by injection h))]
            rfl
          rw [this]
          refine EvP.run (get H4 e24) fun v H5 e5 hv => ?_
          cases hv
          have hf5 := e5 _ _ (e24 _ _ hf2)
          have hfr : valV (inrs (pzV (partN l i))) (Sum.inr z : Key) = none := pzV_none fun hm => by
            obtain ⟨j, hj⟩ := List.getElem?_of_mem (partN_keys.subset hm)
            have hji : j < i := by
              have := (List.getElem?_eq_some_iff.mp hj).1
              rw [List.length_take] at this
              omega
            rw [List.getElem?_take_of_lt hji] at hj
            exact absurd (nodup_ix hnz hj hz) (by omega)
          refine ⟨_, rfl, _, rfl, f, _, rfl, DPut.k (k := Sum.inr z) hf5 ?_, ⟨_, rfl⟩, same_mut (e2.trans (e24.trans e5)) hf, ?_, ?_⟩
          · unfold inrs
            rw [List.length_map, pzV_len]
            have := partN_len raw i
            exact small1000 (by omega)
          · rw [upd_ne (by rintro rfl; rw [hr2] at hf2; cases hf2)]
            exact e5 _ _ (e24 _ _ hr2)
          · rw [upd_same, putK_new _ hfr, partN_succ hz, if_neg q]
            unfold inrs pzV
            rw [List.map_append, List.map_append]
            rfl
      · rintro r σ H2 ⟨⟨s3, rfl⟩, e2, _, hf2⟩
        have ep : partN l (sortT (keysP l)).length = norm l := by unfold partN norm; rw [List.take_length]
        rw [ep] at hf2
        have hx2 := e2 _ _ (e1 _ _ hx)
        have q5 := dropX_dK hx2 hf2
        have sN : dropX x H2 x = none := dropX_x
        refine s_fldQ (S := dropX x H2) (Φ := is (.ref f)) rfl dropX_same hx2 G.c_Pauses G.n_Pauses_numbers pl0 (ev_v (i := 2) rfl) fun y1 H3 e3 h3 p1 => ?_
        cases p1
        have f1 := same_mut (o := .ins (cPauses K) dx (putF "numbers" (.ref f) [])) (dropX_same.trans e3) sN
        refine s_fldQ1 (S := dropX x H2) rfl f1 upd_same G.c_Pauses G.n_Pauses_rows pq1 (ev_cb (ea_cons (ev_cb (ea_cons (ev_v (i := 2) (v := .ref f) rfl) ea_nil) (cp_listD q5)) ea_nil) (cp_tuple (K := K))) fun y2 H4 e4 h4 p2 => ?_
        rw [pzV_keys] at p2
        have k3 : KeepX x H3 H4 := KeepX.trans (KeepX.put KeepX.refl) (Same.keepX e4)
        have k4 : KeepX x H4 (upd H4 x (.ins (cPauses K) dx (putF "rows" y2 (putF "numbers" (.ref f) [])))) := KeepX.put KeepX.refl
        have g2 := dropX_txs h4 p2
        refine k _ ((Same.keepX ((e1.trans e2).trans e3)).trans (k3.trans k4)) ⟨dx, f, y2, by rw [upd_same, flds2], (k3.trans k4) _ _ ?_ (e3 _ _ hf2), Mono.mono (dropX_keep k4) g2⟩
        rintro rfl
        rw [hx2] at hf2
        cases hf2
  · exact absurd rfl hne
end
end K22

set_option Elab.async false
set_option linter.all false
set_option pp.maxSteps 400
set_option maxRecDepth 100000
set_option maxHeartbeats 4000000
/-! P2: pauses from dicts; their parts. -/
namespace K22
open PySem PySem.Spec PyProof.Rows L2
section
variable {w : World} {K : PySem.W.Frag} {mg : Str → Option Value} {base : Heap}
theorem ev_kw {te : TE} {σ : L2.St} {H : Hp} {o : Addr} {l : Pz} (he : EvP te σ H (is (.ref o))) (ho : H o = some (.dK (inrs (pzV l)))) (raw : l.Raw) : EvP (tKw (cPauses K) (spPauI K) te) σ H (pauQ K (norm l)) := fun H1 e Q k D hD =>
  he (upd H1 D (.dK [])) (e.trans (same_new hD)) _ fun v H2 e2 hv => by
  have ho1 := e _ _ ho
  have nD : D ≠ o := by rintro rfl; rw [hD] at ho1; cases ho1
  refine ⟨o, pzV l, hv, e2 _ _ upd_same, e2 _ _ (same_new hD _ _ ho1), nD, by rw [pzV_keys]; exact raw.nd, by rw [pzV_len]; have := raw.len; omega, fun y dx hy hdx hne => ⟨y, dx, l, rfl, rfl, upd_same, raw, fun H' kp hp => ⟨rfl, ?_⟩⟩⟩
  refine k (.ref y) H' (fun b q hb => KeepX.new hy hdx kp b q ?_) ⟨y, rfl, hp⟩
  have nb : b ≠ D := by rintro rfl; rw [hD] at hb; cases hb
  rw [upd_ne nb]
  exact e2 _ _ (by rw [upd_ne nb]; exact hb)
theorem norm_nil : norm [] = [] := by
  unfold norm keysP
  rw [List.map_nil, sortT_nil]
  rfl
theorem raw_nil : Pz.Raw [] := ⟨List.nodup_nil, fun z h => absurd h List.not_mem_nil, fun p h => absurd h List.not_mem_nil, fun p h => absurd h List.not_mem_nil, Nat.zero_le _⟩
theorem ok_nil : Pz.Ok [] := ⟨List.Pairwise.nil, fun z h => absurd h List.not_mem_nil, fun p h => absurd h List.not_mem_nil, fun p h => absurd h List.not_mem_nil, Nat.zero_le _⟩
theorem ev_kw0 {σ : L2.St} {H : Hp} : EvP (fun σ H Q => ∀ x dx, H x = none → H dx = none → dx ≠ x → spPauI K (.ref x) [] (upd (upd H dx (.own x)) x (.ins (cPauses K) dx [])) (fun v H2 => v = .non ∧ Q (.ref x) H2)) σ H (pauQ K []) := fun H1 e Q k x dx hx hdx hne =>
  ⟨x, dx, [], rfl, rfl, upd_same, raw_nil, fun H' kp hp => ⟨rfl, k (.ref x) H' (KeepX.new hx hdx kp) ⟨x, rfl, by rw [norm_nil] at hp; exact hp⟩⟩⟩
theorem cp_isPau (G : Fc K mg) {l : Pz} {H : Hp} : CP (rIsi K) [pauQ K l, is (.ref (cPauses K))] H (is (.bl true)) := fun H1 e vs hv Q k => by
  obtain ⟨v, ws, rfl, ⟨x, rfl, dx, d, r, h1, _⟩, h2⟩ := all2_cons hv
  exact cp_isi G.c_Pauses G.ins_Pauses G.k_Pauses_Pauses H1 e _ (.cons ⟨x, dx, rfl, h1⟩ h2) Q k
theorem ev_prows (G : Fc K mg) {te : TE} {σ : L2.St} {H : Hp} {l : Pz} (h : EvP te σ H (pauQ K l)) : EvP (tFld K te "rows") σ H (tupQ (txQ (keysP l))) := fun H1 e Q k => h H1 e _ fun v H2 e2 ⟨x, hv, dx, d, r, h1, h2, h3⟩ => ⟨x, _, dx, _, r, hv, h1, G.c_Pauses, G.n_Pauses_rows, rfl, k _ H2 e2 h3⟩
/-- a dict of these numbers -/
def dPz (l : Pz) : VQ := fun v H => ∃ d, v = .ref d ∧ H d = some (.dK (inrs (pzV l)))
instance {l : Pz} : Stab (dPz l) := ⟨fun e ⟨d, h1, h2⟩ => ⟨d, h1, e.dK h2⟩⟩
theorem ev_pnums (G : Fc K mg) {te : TE} {σ : L2.St} {H : Hp} {l : Pz} (h : EvP te σ H (pauQ K l)) : EvP (tFld K te "numbers") σ H (dPz l) := fun H1 e Q k => h H1 e _ fun v H2 e2 ⟨x, hv, dx, d, r, h1, h2, h3⟩ => ⟨x, _, dx, _, .ref d, hv, h1, G.c_Pauses, G.n_Pauses_numbers, rfl, k _ H2 e2 ⟨d, rfl, h2⟩⟩
/-! ### of -/
def spPauOf (K : PySem.W.Frag) : Sp := fun vs H Q _ => ∃ (d : Addr) (l : Pz), vs = [.ref d] ∧ H d = some (.dK (inrs (pzV l))) ∧ l.Raw ∧ ∀ v H', Same H H' → pauQ K (norm l) v H' → Q v H'
theorem sc_Pauses_of : FnScope ["places"] ["places"] (defScope s_Pauses_of) := ⟨rfl, rfl, rfl, by decide +kernel, rfl, by decide +kernel, by decide +kernel⟩
theorem cp_isiDict {d : Addr} {kvs : List (Key × V)} {H : Hp} (hd : H d = some (.dK kvs)) : CP (rIsi K) [is (.ref d), is (.ty "dict")] H (is (.bl true)) := fun H1 e vs hv Q k => by
  have ev := all2_is (xs := [.ref d, .ty "dict"]) hv
  subst ev
  exact ⟨_, _, _, _, true, rfl, .ty "dict", .base (.dK (e _ _ hd)), kit_ty (r := true) (by decide +kernel), k _ H1 (Same.refl H1) rfl⟩
theorem ok_Pauses_of (G : Fc K mg) : Fn R.prog w K mg base 7 (f_Pauses_of K) (spPauOf K) := by
  refine fnA G.d_Pauses_of sc_Pauses_of (fun _ _ _ _ _ _ us hl => match us, hl with | [_], _ => rfl) (fun vs H Q h => ?_) (fun vs H Q E h => h) (fun cdv A outer s H vs Q hr h => ?_)
  · obtain ⟨d, l, rfl, _⟩ := h
    rfl
  · obtain ⟨d, l, rfl, hd, raw, k⟩ := h
    refine ⟨_, pss_cons (ps_if (pt_not (pt_val (pe_callB call_isi (by rfl) G.b_isinstance (by decide +kernel) (pa_cons (pv 0) (pa_cons (pe_bltn (v := .ty "dict") (by rfl) G.b_dict (by decide +kernel) rfl) pa_nil))))) pss_never pss_nil) <|
      pss_cons (ps_expr (pe_f (ok_need_names_alone G) hr G.g_need_names_alone G.d_need_names_alone.choose_spec.kp (pa_cons (pv 0) pa_nil))) <|
      pss_one (ps_ret (pe_kw G.m_Pauses (ok_Pauses_init G) hr G.g_Pauses (pv 0))), ?_⟩
    have hl := raw.len
    refine s_skip (et_not (b := true) (et_B (ev_cb (ea_cons (ev_v (v := .ref d) rfl) (ea_cons ev_k ea_nil)) (cp_isiDict hd)))) fun H1 e1 => ?_
    refine EvP.run (ev_f (ea_cons (ev_v (v := .ref d) rfl) ea_nil) (sp_alone (e1 _ _ hd) (by rw [pzV_len]; omega) fun p hp => raw.nm _ (by rw [← pzV_keys]; exact List.mem_map_of_mem hp))) fun _ H2 e2 _ => ?_
    exact s_ret (ev_kw (ev_v (v := .ref d) rfl) (e2 _ _ (e1 _ _ hd)) raw) fun v H3 e3 hv => k v H3 ((e1.trans e2).trans e3) hv
/-! ### need_like -/
def spLike (K : PySem.W.Frag) : Sp := fun vs H Q _ => ∃ (x y : V) (m : Pz), vs = [x, y] ∧ pauQ K m y H ∧ ∀ H', Same H H' → Q .non H'
theorem sc_Pauses_need_like : FnScope ["self", "other"] ["self", "other"] (defScope s_Pauses_need_like) := ⟨rfl, rfl, rfl, by decide +kernel, rfl, by decide +kernel, by decide +kernel⟩
theorem ok_Pauses_need_like (G : Fc K mg) : Fn R.prog w K mg base 1 (f_Pauses_need_like K) (spLike K) := by
  refine fnA G.d_Pauses_need_like sc_Pauses_need_like (fun _ _ _ _ _ _ us hl => match us, hl with | [_, _], _ => rfl) (fun vs H Q h => ?_) (fun vs H Q E h => h) (fun cdv A outer s H vs Q hr h => ?_)
  · obtain ⟨x, y, m, rfl, _⟩ := h
    rfl
  · obtain ⟨x, y, m, rfl, hy, k⟩ := h
    refine ⟨_, pss_one (ps_if (pt_not (pt_val (pe_callB call_isi (by rfl) G.b_isinstance (by decide +kernel) (pa_cons (pv 1) (pa_cons (pe_glob (v := .ref (cPauses K)) (by rfl) G.g_Pauses rfl) pa_nil))))) pss_never pss_nil), ?_⟩
    exact s_skip1 (et_not (b := true) (et_B (ev_cb (ea_cons (ev_var (Φ := pauQ K m) (v := y) rfl hy) (ea_cons ev_k ea_nil)) (cp_isPau G)))) fun H1 e1 => k H1 e1
/-! ### [place] -/
def spPGet (K : PySem.W.Frag) : Sp := fun vs H Q _ => ∃ (x : V) (l : Pz) (z : Str), vs = [x, .str z] ∧ pauQ K l x H ∧ nameOk z = true ∧ ∀ H', Same H H' → Q (.int (look l z)) H'
theorem sc_Pauses_getitem : FnScope ["self", "place"] ["self", "place"] (defScope s_Pauses_getitem) := ⟨rfl, rfl, rfl, by decide +kernel, rfl, by decide +kernel, by decide +kernel⟩
theorem ok_Pauses_getitem (G : Fc K mg) : Fn R.prog w K mg base 2 (f_Pauses_getitem K) (spPGet K) := by
  refine fnA G.d_Pauses_getitem sc_Pauses_getitem (fun _ _ _ _ _ _ us hl => match us, hl with | [_, _], _ => rfl) (fun vs H Q h => ?_) (fun vs H Q E h => h) (fun cdv A outer s H vs Q hr h => ?_)
  · obtain ⟨x, l, z, rfl, _⟩ := h
    rfl
  · obtain ⟨x, l, z, rfl, hx, hz, k⟩ := h
    have hu := hu_of hr
    refine ⟨_, pss_cons (ps_if (pt_not (pt_val (pe_f (ok_is_name G) hr G.g_is_name G.d_is_name.choose_spec.kp (pa_cons (pv 1) pa_nil)))) pss_never pss_nil) <|
      pss_one (ps_ret (pe_dget2 hu (pe_fld (pv 0) rfl) (pv 1) pe_int ⟨rfl, rfl, rfl, rfl⟩)), ?_⟩
    refine s_skip (et_not (b := true) (et_B (ev_f (ea_cons (ev_v (i := 1) (v := .str z) rfl) ea_nil) (sp_isName hz)))) fun H1 e1 => ?_
    have h0 : EvP (tVar 0) (start ["self", "place"] [x, .str z]) H1 (pauQ K l) := ev_var rfl (Stab.st (nl_same e1) hx)
    unfold tRet tDGet2
    refine EvP.run (ev_pnums G h0) fun v H2 e2 ⟨d, hv, hd⟩ => ?_
    refine ⟨d, hv, .inl ⟨_, .inl hd⟩, _, rfl, _, DGet.k (k := Sum.inr z) hd, ?_⟩
    by_cases hk : z ∈ keysP l
    · rw [pzV_look hk]
      exact k H2 (e1.trans e2)
    · rw [pzV_none hk]
      have := k H2 (e1.trans e2)
      rw [look_not hk] at this
      exact this
end
end K22

set_option Elab.async false
set_option linter.all false
set_option pp.maxSteps 400
set_option maxRecDepth 100000
set_option maxHeartbeats 4000000
/-! P3: pauses: + | &. -/
namespace K22
open PySem PySem.Spec PyProof.Rows L2
instance {As Bs : List VQ} [a : StabL As] [b : StabL Bs] : StabL (As ++ Bs) := ⟨fun e h => by
  obtain ⟨us, ws, rfl, h1, h2⟩ := all2_split h
  exact (a.st e h1).app (b.st e h2)⟩
section
variable {w : World} {K : PySem.W.Frag} {mg : Str → Option Value} {base : Heap}
def bothK (l m : Pz) : List Str := uniqT (keysP l ++ keysP m)
theorem mets_uniq (l : List Str) : (mets l).length = (uniqT l).length := (sortT_perm _).length_eq.symm
def spWithP (K : PySem.W.Frag) : Sp := fun vs H Q _ => ∃ (x y : V) (l m : Pz), vs = [x, y] ∧ pauQ K l x H ∧ pauQ K m y H ∧ l.Ok ∧ m.Ok ∧ (bothK l m).length ≤ 60 ∧ ∀ v H', Same H H' → lstQ (txQ (bothK l m)) v H' → Q v H'
theorem sc_Pauses_places_with : FnScope ["self", "other", "place"] ["self", "other"] (defScope s_Pauses_places_with) := ⟨rfl, rfl, rfl, by decide +kernel, rfl, by decide +kernel, by decide +kernel⟩
theorem ok_Pauses_places_with (G : Fc K mg) : Fn R.prog w K mg base 1 (f_Pauses_places_with K) (spWithP K) := by
  refine fnA G.d_Pauses_places_with sc_Pauses_places_with (fun _ _ _ _ _ _ us hl => match us, hl with | [_, _], _ => rfl) (fun vs H Q h => ?_) (fun vs H Q E h => h) (fun cdv A outer s H vs Q hr h => ?_)
  · obtain ⟨x, y, l, m, rfl, _⟩ := h
    rfl
  · obtain ⟨x, y, l, m, rfl, hx, hy, hl, hm, hb, k⟩ := h
    have nd := sc_Pauses_places_with.nd
    refine ⟨_, pss_one (ps_ret (pe_callB (cr_sortedX rfl) (by rfl) G.b_sorted (by decide +kernel) (pa_cons (pe_callTy (cr_setT rfl) (by rfl) G.b_set (by decide +kernel) (pa_cons
      (pe_lc (te := tCB (fun xs H Q => ∃ a, xs = [.str a] ∧ Q (.str a) H) (tCons (tVar 2) tNil)) (own := [("place", 2)]) (g := gName 2) (by rfl) nd (pi_list (pe_lst (StX.pa_star (pe_fld (pv 0) rfl) (StX.pa_star (pe_fld (pv 1) rfl) pa_nil)))) (blkOk_by (own := [("place", 2)]) (N := ["self", "other", "place"]) (sc := defScope s_Pauses_places_with) (by decide +kernel))
        (fun _ _ _ _ _ => pg_name (i := 2) nd rfl (Or.inl rfl)) (fun _ _ _ _ _ => pts_nil) (fun _ _ _ _ _ => pe_callTy SkE.call_str_str (by rfl) G.b_str (by decide +kernel) (pa_cons (pv 2) pa_nil))) pa_nil)) pa_nil))), ?_⟩
    have h0 : EvP (tVar 0) (start ["self", "other", "place"] [x, y]) H (pauQ K l) := ev_var rfl hx
    have h1 : EvP (tVar 1) (start ["self", "other", "place"] [x, y]) H (pauQ K m) := ev_var rfl hy
    have ll := hl.len
    have ml := hm.len
    have hkl : (keysP l ++ keysP m).length ≤ 120 := by unfold keysP; rw [List.length_append, List.length_map, List.length_map]; omega
    have hlst := ev_lst (ea_starT (K := K) (ev_prows G h0) (ea_starT (K := K) (ev_prows G h1) ea_nil)) (by
      unfold txQ
      rw [List.append_nil, List.length_append, List.length_map, List.length_map]
      rw [List.length_append] at hkl
      omega)
    rw [List.append_nil, show txQ (keysP l) ++ txQ (keysP m) = txQ (keysP l ++ keysP m) by unfold txQ; rw [List.map_append]] at hlst
    have hlc := ev_lcL (K := K) (g := gName 2) (vs := [2]) (tt := tYes) (te := tCB (fun xs H Q => ∃ a, xs = [.str a] ∧ Q (.str a) H) (tCons (tVar 2) tNil)) (ei_lstQ hlst) (fun _ => true) (fun i => is (.str ((keysP l ++ keysP m).getD i default))) (by rw [List.length_map]; omega) fun i v hi => by
      rw [List.getElem?_map] at hi
      cases q : (keysP l ++ keysP m)[i]? with
      | none => rw [q] at hi; cases hi
      | some z =>
        rw [q] at hi
        cases hi
        have : (keysP l ++ keysP m).getD i default = z := by rw [List.getD_eq_getElem?_getD, q]; rfl
        rw [this]
        exact ⟨(wipe (start ["self", "other", "place"] [x, y]) [2]).set 2 (some (.str z)), rfl, fun H' R hR => hR, et_yes, fun _ => ev_cb (ea_cons (ev_v rfl) ea_nil) cp_strS⟩
    rw [show keptQ (fun _ => true) (fun i => is (.str ((keysP l ++ keysP m).getD i default))) ((keysP l ++ keysP m).map V.str).length = txQ (keysP l ++ keysP m) by
      rw [List.length_map]
      exact range_map1 (keysP l ++ keysP m) default fun z => is (.str z)] at hlc
    exact s_ret (ev_cb (ea_cons (ev_cb (ea_cons hlc ea_nil) (cp_set (by omega))) ea_nil) (cp_sortedX (by rw [mets_uniq]; unfold bothK at hb; omega))) fun v H2 e2 hv => k v H2 e2 hv
end
end K22

set_option Elab.async false
set_option linter.all false
set_option pp.maxSteps 400
set_option maxRecDepth 100000
set_option maxHeartbeats 4000000
/-! R13: name = {k: v for ..}. -/
namespace K22
open PySem PySem.Spec PyProof.Rows L2
section
variable {X : Cx}
theorem ps_setDc {i : Nat} {y : Str} {py : Pos} {kx vx tg iter : Expr} {ifs : List Expr} {scope : Scope} {own : List (Str × Nat)} {pos spos : Pos} {wi : TI} {g : TG} {tt : TT} {tk tv : TE} (hc : X.calm = true) (hN : X.N.Nodup) (hy : X.N[i]? = some y) (hyl : X.env.scope.names.lookup y = some .local)
    (hsw : swapsWith (.DictComp kx vx [⟨tg, iter, ifs, 0⟩] scope pos) (some (.Name y py)) spos.line X.env = pure true) (hi : PI X tg iter wi) (ok : BlkOk X.N X.env.scope scope own)
    (hg : ∀ (s : Shared) (H : Hp) (C : Addr) (cl : List (Str × Addr)) (fp : List Addr), PG (X.blk s H scope (compEnvC scope cl C X.env) fp) tg g) (ht : ∀ (s : Shared) (H : Hp) (C : Addr) (cl : List (Str × Addr)) (fp : List Addr), PTs (X.blk s H scope (compEnvC scope cl C X.env) fp) ifs tt)
    (hk : ∀ (s : Shared) (H : Hp) (C : Addr) (cl : List (Str × Addr)) (fp : List Addr), PE (X.blk s H scope (compEnvC scope cl C X.env) fp) kx tk)
    (he : ∀ (s : Shared) (H : Hp) (C : Addr) (cl : List (Str × Addr)) (fp : List Addr), PE (X.blk s H scope (compEnvC scope cl C X.env) fp) vx tv) (hs : ∀ x, foldedSetIterable iter X.env x = pure x := by intro _; rfl) :
    PS X (.Assign [.Name y py] (.DictComp kx vx [⟨tg, iter, ifs, 0⟩] scope pos) spos) (tAsg (tDc wi g tt tk tv (own.map (·.2))) (gName i)) := by
  refine ⟨fun pins s σ H D I h => ?_⟩
  rw [exec_Assign_Name_used _ _ _ _ hsw]
  refine wpAny_bind (wpAny_standAt (wpAny_bind ?_))
  show wpAny _ X.A (do let _ ← comprehension (.DictComp kx vx [⟨tg, iter, ifs, 0⟩] scope pos) scope X.env (firstIterPos [⟨tg, iter, ifs, 0⟩] pos) newDict false (eval iter X.env) (some (assign (.Name y py) X.env))) _ _ s
  have h : tDc wi g tt tk tv (own.map (·.2)) σ H (fun x H1 => gName i x σ H1 D.nx) := h
  refine wpAny_bind (thn (dc_core (Qf := fun _ s' => L2.SP X pins D .next s') hc hN I hi ok hg ht hk he hs h fun L C s' m H' I' q hn f => ?_) fun _ s' hq => wpAny_pure (wpAny_pure hq))
  show wpAny _ _ (assign (.Name y py) X.env (.ref L)) _ _ _
  refine wpAny_assign_Name (store_ok2 (v := V.ref L) I' hN hy (.inl hyl) rfl (fun s2 I2 ⟨a, sb, ha⟩ => ?_) (.inr hyl))
  obtain ⟨f0, f1, f2, f3, f4, f5⟩ := f
  have haC : C ≠ a := by
    rcases ha with z | z
    · rw [z]; exact f1
    · exact fun e => f4 y a z e.symm
  refine ⟨m, hn.sameBut sb haC, fun h3 sb3 => ?_⟩
  exact ⟨_, H', I2.turned (t' := s2.toks) (fun b o hb e => (sb3.2 b hb).trans e) f0 f1 f3 f4 f5, q⟩
theorem sw_trueD {kx vx : Expr} {gs : List Comprehension} {scope : Scope} {pos py : Pos} {y : Str} {l : Nat} {env : Env} (hk : env.scope.kind = .function) (hy : env.scope.names.lookup y = some .local) (hl : (py.line == pos.line) = true)
    (ha : (scope.names.any fun (n, k) => n == y && (k == .local || k == .cell)) = false) : swapsWith (.DictComp kx vx gs scope pos) (some (.Name y py)) l env = pure true := by
  have ky : env.kindOf y = some .local := hy
  have hb : env.blockKind = .function := by unfold Env.blockKind; rw [hk]; rfl
  unfold swapsWith
  simp only [hb, ky, ha, Expr.pos, hl]
  rfl
end
end K22

set_option Elab.async false
set_option linter.all false
set_option pp.maxSteps 400
set_option maxRecDepth 100000
set_option maxHeartbeats 4000000
/-! P4: pauses: + | &. -/
namespace K22
open PySem PySem.Spec PyProof.Rows L2
section
variable {w : World} {K : PySem.W.Frag} {mg : Str → Option Value} {base : Heap}
def combR (g : Int → Int → Int) (l m : Pz) : Pz := (bothK l m).map fun z => (z, g (look l z) (look m z))
def spComb (K : PySem.W.Frag) (g : Int → Int → Int) : Sp := fun vs H Q _ => ∃ (x y : V) (l m : Pz), vs = [x, y] ∧ pauQ K l x H ∧ pauQ K m y H ∧ l.Ok ∧ m.Ok ∧ (combR g l m).Raw ∧ ∀ v H', Same H H' → pauQ K (norm (combR g l m)) v H' → Q v H'
theorem rp_pget (G : Fc K mg) {l : Pz} {z : Str} {H : Hp} (hz : nameOk z = true) : RP (rGetO K (f_Pauses_getitem K) (spPGet K)) (pauQ K l) (is (.str z)) H (is (.int (look l z))) := fun H1 e x y hx hy Q k => by
  cases hy
  obtain ⟨x, rfl, dx, d, r, h1, h2, h3⟩ := id hx
  exact ⟨x, _, dx, _, rfl, h1, G.h_Pauses_getitem, G.fi_Pauses_getitem, _, l, z, rfl, ⟨x, rfl, dx, d, r, h1, h2, h3⟩, hz, fun H' e' => k _ H' e' rfl⟩
theorem mp_like {X : Cx} {n : Nat} {l m : Pz} {H : Hp} (G : Fc X.K mg) (hX : X.prog = R.prog ∧ X.w = w ∧ X.mg = mg) (hk : 1 ≤ n := by decide) : MethP X n "need_like" (pauQ X.K l) [pauQ X.K m] H (is .non) := by
  obtain ⟨e1, e2, e3⟩ := hX
  intro H1 e x hx
  obtain ⟨x, rfl, dx, d, r, h1, h2, h3⟩ := id hx
  refine ⟨x, _, dx, _, _, 1, _, rfl, h1, G.c_Pauses, G.h_Pauses_need_like, rfl, by unfold FnX; rw [e1, e2, e3]; exact ok_Pauses_need_like G, hk, fun H2 e2 vs hv Q k => ?_⟩
  obtain ⟨y, ws, rfl, hy, h4⟩ := all2_cons hv
  cases h4
  exact ⟨_, y, m, rfl, hy, fun H' e' => k _ H' e' rfl⟩
theorem mp_with {X : Cx} {n : Nat} {l m : Pz} {H : Hp} (G : Fc X.K mg) (hX : X.prog = R.prog ∧ X.w = w ∧ X.mg = mg) (hl : l.Ok) (hm : m.Ok) (hb : (bothK l m).length ≤ 60) (hk : 1 ≤ n := by decide) : MethP X n "places_with" (pauQ X.K l) [pauQ X.K m] H (lstQ (txQ (bothK l m))) := by
  obtain ⟨e1, e2, e3⟩ := hX
  intro H1 e x hx
  obtain ⟨x, rfl, dx, d, r, h1, h2, h3⟩ := id hx
  refine ⟨x, _, dx, _, _, 1, _, rfl, h1, G.c_Pauses, G.h_Pauses_places_with, rfl, by unfold FnX; rw [e1, e2, e3]; exact ok_Pauses_places_with G, hk, fun H2 e2 vs hv Q k => ?_⟩
  obtain ⟨y, ws, rfl, hy, h4⟩ := all2_cons hv
  cases h4
  exact ⟨_, y, l, m, rfl, Stab.st (nl_same e2) hx, hy, hl, hm, hb, fun v H' e' h' => k v H' e' h'⟩
theorem dict_pz {zs : List Str} {h : Str → Int} {v : V} {H : Hp} (hd : dictQ zs (zs.map fun z => is (.int (h z))) v H) : dPz (zs.map fun z => (z, h z)) v H := by
  obtain ⟨a, vs, rfl, ha, hv, hl⟩ := hd
  have ev := all2_is (xs := zs.map fun z => .int (h z)) (by rw [List.map_map]; exact hv)
  subst ev
  refine ⟨a, rfl, ?_⟩
  rw [ha]
  congr 3
  unfold pzV
  rw [List.map_map]
  clear ha hv hl
  induction zs with
  | nil => rfl
  | cons z zs ih => rw [List.map_cons, List.zip_cons_cons, List.map_cons, ih]; rfl
theorem combR_keys {g : Int → Int → Int} {l m : Pz} : keysP (combR g l m) = bothK l m := by
  unfold keysP combR
  rw [List.map_map]
  exact List.map_id _
/-- {place: .. for place in self.places_with(other)} -/
theorem ev_comb {X : Cx} {n : Nat} (G : Fc X.K mg) (hX : X.prog = R.prog ∧ X.w = w ∧ X.mg = mg) (hk : 1 ≤ n) {l m : Pz} {x y : V} {H : Hp} {g : Int → Int → Int} {tv : TE} (hx : pauQ X.K l x H) (hy : pauQ X.K m y H) (hl : l.Ok) (hm : m.Ok) (raw : (combR g l m).Raw)
    (hv : ∀ z, nameOk z = true → EvP tv [some x, some y, none, some (.str z)] H (is (.int (g (look l z) (look m z))))) :
    EvP (tDc (iList X.K (tM X n "places_with" (tVar 0) (tCons (tVar 1) tNil))) (gName 3) tYes (tVar 3) tv [3]) [some x, some y, none, none] H (dPz (combR g l m)) := by
  have hb : (bothK l m).length ≤ 60 := by
    have := raw.len
    unfold combR at this
    rw [List.length_map] at this
    exact this
  have h0 : EvP (tVar 0) [some x, some y, none, none] H (pauQ X.K l) := ev_var rfl hx
  have h1 : EvP (tVar 1) [some x, some y, none, none] H (pauQ X.K m) := ev_var rfl hy
  have hi := ei_lstQ (K := X.K) (ev_m h0 (ea_cons h1 ea_nil) (mp_with G hX hl hm hb hk))
  have hks : (List.range ((bothK l m).map V.str).length).map (fun i => (bothK l m).getD i default) = bothK l m := by
    have := range_map1 (bothK l m) default (fun z => z)
    rw [List.filter_eq_self.mpr fun _ _ => rfl, List.map_id'] at this
    rw [List.length_map]
    exact this
  have hvs : (List.range ((bothK l m).map V.str).length).map (fun i => is (.int (g (look l ((bothK l m).getD i default)) (look m ((bothK l m).getD i default))))) = (bothK l m).map fun z => is (.int (g (look l z) (look m z))) := by
    have := range_map1 (bothK l m) default (fun z => is (.int (g (look l z) (look m z))))
    rw [List.filter_eq_self.mpr fun _ _ => rfl] at this
    rw [List.length_map]
    exact this
  have hdc := ev_dcL (g := gName 3) (vs := [3]) (tk := tVar 3) (tv := tv) hi (fun i => (bothK l m).getD i default) (fun i => is (.int (g (look l ((bothK l m).getD i default)) (look m ((bothK l m).getD i default))))) (by rw [List.length_map]; omega) (by rw [hks]; exact strict_nd (uniqT_strict _)) fun i v hi => by
    rw [List.getElem?_map] at hi
    cases q : (bothK l m)[i]? with
    | none => rw [q] at hi; cases hi
    | some z =>
      rw [q] at hi
      cases hi
      have e : (bothK l m).getD i default = z := by rw [List.getD_eq_getElem?_getD, q]; rfl
      rw [e]
      have hz := raw.nm z (by rw [combR_keys]; exact List.mem_of_getElem? q)
      exact ⟨[some x, some y, none, some (.str z)], rfl, fun H' R hR => hR, ev_v rfl, hv z hz⟩
  rw [hks, hvs] at hdc
  exact fun H1 e Q k => hdc H1 e Q fun v H2 e2 h2 => k v H2 e2 (dict_pz h2)
theorem sc_Pauses_add : FnScope ["self", "other", "found", "place"] ["self", "other"] (defScope s_Pauses_add) := ⟨rfl, rfl, rfl, by decide +kernel, rfl, by decide +kernel, by decide +kernel⟩
theorem sc_Pauses_or : FnScope ["self", "other", "found", "place"] ["self", "other"] (defScope s_Pauses_or) := ⟨rfl, rfl, rfl, by decide +kernel, rfl, by decide +kernel, by decide +kernel⟩
theorem sc_Pauses_and : FnScope ["self", "other", "found", "place"] ["self", "other"] (defScope s_Pauses_and) := ⟨rfl, rfl, rfl, by decide +kernel, rfl, by decide +kernel, by decide +kernel⟩
theorem ok_Pauses_add (G : Fc K mg) : Fn R.prog w K mg base 7 (f_Pauses_add K) (spComb K fun i j => i + j) := by
  refine fnA G.d_Pauses_add sc_Pauses_add (fun _ _ _ _ _ _ us hl => match us, hl with | [_, _], _ => rfl) (fun vs H Q h => ?_) (fun vs H Q E h => h) (fun cdv A outer s H vs Q hr h => ?_)
  · obtain ⟨x, y, l, m, rfl, _⟩ := h
    rfl
  · obtain ⟨x, y, l, m, rfl, hx, hy, hl, hm, raw, k⟩ := h
    have nd := sc_Pauses_add.nd
    refine ⟨_, pss_cons (ps_expr (pe_m hr (pv 0) (pa_cons (pv 1) pa_nil))) <|
      pss_cons (ps_setDc (i := 2) (tk := tVar 3) (tv := tOp (rI0 fun i j => .int (i + j)) (tOp (rGetO K (f_Pauses_getitem K) (spPGet K)) (tVar 0) (tVar 3)) (tOp (rGetO K (f_Pauses_getitem K) (spPGet K)) (tVar 1) (tVar 3))) (own := [("place", 3)]) (g := gName 3) (by rfl) nd rfl rfl (sw_trueD rfl rfl rfl (by decide +kernel)) (pi_list (pe_m hr (pv 0) (pa_cons (pv 1) pa_nil))) (blkOk_by (own := [("place", 3)]) (N := ["self", "other", "found", "place"]) (sc := defScope s_Pauses_add) (by decide +kernel))
        (fun _ _ _ _ _ => pg_name (i := 3) nd rfl (Or.inl rfl)) (fun _ _ _ _ _ => pts_nil) (fun _ _ _ _ _ => pv 3) (fun _ _ _ _ _ => pe_op op_add (pe_ixO (ok_Pauses_getitem G) hr (pv 0) (pv 3)) (pe_ixO (ok_Pauses_getitem G) hr (pv 1) (pv 3)))) <|
      pss_one (ps_ret (pe_kw G.m_Pauses (ok_Pauses_init G) hr G.g_Pauses (pv 2))), ?_⟩
    have h0 : EvP (tVar 0) [some x, some y, none, none] H (pauQ K l) := ev_var rfl hx
    have h1 : EvP (tVar 1) [some x, some y, none, none] H (pauQ K m) := ev_var rfl hy
    refine EvP.run (ev_m h0 (ea_cons h1 ea_nil) (mp_like G ⟨rfl, rfl, rfl⟩)) fun _ H1 e1 _ => ?_
    refine s_set (ev_comb (X := (cxOf CX0 R.prog w K mg base ["self", "other", "found", "place"] "Pauses.__add__" (defScope s_Pauses_add) (f_Pauses_add K) cdv A outer s H E0).nox) G ⟨rfl, rfl, rfl⟩ (by decide) (g := fun i j => i + j) (Stab.st (nl_same e1) hx) (Stab.st (nl_same e1) hy) hl hm raw fun z hz =>
      ev_op (ev_op (ev_var (i := 0) rfl (Stab.st (nl_same e1) hx)) (ev_v (i := 3) rfl) (rp_pget G hz)) (ev_op (ev_var (i := 1) rfl (Stab.st (nl_same e1) hy)) (ev_v (i := 3) rfl) (rp_pget G hz)) rp_I0) fun v H2 e2 ⟨d, hv, hd⟩ => ?_
    subst hv
    exact s_ret (ev_kw (ev_v (i := 2) rfl) hd raw) fun v H3 e3 hv => k v H3 ((e1.trans e2).trans e3) hv
end
end K22

set_option Elab.async false
set_option linter.all false
set_option pp.maxSteps 400
set_option maxRecDepth 100000
set_option maxHeartbeats 4000000
/-! P5: pauses: | & compared. -/
namespace K22
open PySem PySem.Spec PyProof.Rows L2
section
variable {w : World} {K : PySem.W.Frag} {mg : Str → Option Value} {base : Heap}
def gmax (i j : Int) : Int := if j > i then j else i
def gmin (i j : Int) : Int := if j < i then j else i
abbrev rMx : List V → Hp → VK → Prop := fun xs H Q => ∃ i j, xs = [.int i, .int j] ∧ Q (.int (if j > i then j else i)) H
abbrev rMn : List V → Hp → VK → Prop := fun xs H Q => ∃ i j, xs = [.int i, .int j] ∧ Q (.int (if j < i then j else i)) H
abbrev tInt (te : TE) : TE := tCB (fun xs H Q => (∃ i, xs = [.int i] ∧ Q (.int i) H) ∨ ∃ k, xs = [.bl k] ∧ Q (.int (if k then 1 else 0)) H) (tCons te tNil)
theorem cp_max {i j : Int} {H : Hp} : CP rMx [is (.int i), is (.int j)] H (is (.int (gmax i j))) := fun H1 e vs hv Q k => by
  have ev := all2_is (xs := [.int i, .int j]) hv
  subst ev
  exact ⟨i, j, rfl, k _ H1 (Same.refl H1) rfl⟩
theorem cp_min {i j : Int} {H : Hp} : CP rMn [is (.int i), is (.int j)] H (is (.int (gmin i j))) := fun H1 e vs hv Q k => by
  have ev := all2_is (xs := [.int i, .int j]) hv
  subst ev
  exact ⟨i, j, rfl, k _ H1 (Same.refl H1) rfl⟩
theorem ok_Pauses_or (G : Fc K mg) : Fn R.prog w K mg base 7 (f_Pauses_or K) (spComb K gmax) := by
  refine fnA G.d_Pauses_or sc_Pauses_or (fun _ _ _ _ _ _ us hl => match us, hl with | [_, _], _ => rfl) (fun vs H Q h => ?_) (fun vs H Q E h => h) (fun cdv A outer s H vs Q hr h => ?_)
  · obtain ⟨x, y, l, m, rfl, _⟩ := h
    rfl
  · obtain ⟨x, y, l, m, rfl, hx, hy, hl, hm, raw, k⟩ := h
    have nd := sc_Pauses_or.nd
    refine ⟨_, pss_cons (ps_expr (pe_m hr (pv 0) (pa_cons (pv 1) pa_nil))) <|
      pss_cons (ps_setDc (i := 2) (tk := tVar 3) (tv := tCB rMx (tCons (tInt (tOp (rGetO K (f_Pauses_getitem K) (spPGet K)) (tVar 0) (tVar 3))) (tCons (tInt (tOp (rGetO K (f_Pauses_getitem K) (spPGet K)) (tVar 1) (tVar 3))) tNil))) (own := [("place", 3)]) (g := gName 3) (by rfl) nd rfl rfl (sw_trueD rfl rfl rfl (by decide +kernel)) (pi_list (pe_m hr (pv 0) (pa_cons (pv 1) pa_nil))) (blkOk_by (own := [("place", 3)]) (N := ["self", "other", "found", "place"]) (sc := defScope s_Pauses_or) (by decide +kernel))
        (fun _ _ _ _ _ => pg_name (i := 3) nd rfl (Or.inl rfl)) (fun _ _ _ _ _ => pts_nil) (fun _ _ _ _ _ => pv 3) (fun _ _ _ _ _ => pe_callB (call_max2 rfl) (by rfl) G.b_max (by decide +kernel) (pa_cons (pe_callTy call_int1 (by rfl) G.b_int (by decide +kernel) (pa_cons (pe_ixO (ok_Pauses_getitem G) hr (pv 0) (pv 3)) pa_nil)) (pa_cons (pe_callTy call_int1 (by rfl) G.b_int (by decide +kernel) (pa_cons (pe_ixO (ok_Pauses_getitem G) hr (pv 1) (pv 3)) pa_nil)) pa_nil)))) <|
      pss_one (ps_ret (pe_kw G.m_Pauses (ok_Pauses_init G) hr G.g_Pauses (pv 2))), ?_⟩
    have h0 : EvP (tVar 0) [some x, some y, none, none] H (pauQ K l) := ev_var rfl hx
    have h1 : EvP (tVar 1) [some x, some y, none, none] H (pauQ K m) := ev_var rfl hy
    refine EvP.run (ev_m h0 (ea_cons h1 ea_nil) (mp_like G ⟨rfl, rfl, rfl⟩)) fun _ H1 e1 _ => ?_
    refine s_set (ev_comb (X := (cxOf CX0 R.prog w K mg base ["self", "other", "found", "place"] "Pauses.__or__" (defScope s_Pauses_or) (f_Pauses_or K) cdv A outer s H E0).nox) G ⟨rfl, rfl, rfl⟩ (by decide) (g := gmax) (Stab.st (nl_same e1) hx) (Stab.st (nl_same e1) hy) hl hm raw fun z hz =>
      ev_cb (ea_cons (ev_cb (ea_cons (ev_op (ev_var (i := 0) rfl (Stab.st (nl_same e1) hx)) (ev_v (i := 3) rfl) (rp_pget G hz)) ea_nil) cp_int) (ea_cons (ev_cb (ea_cons (ev_op (ev_var (i := 1) rfl (Stab.st (nl_same e1) hy)) (ev_v (i := 3) rfl) (rp_pget G hz)) ea_nil) cp_int) ea_nil)) cp_max) fun v H2 e2 ⟨d, hv, hd⟩ => ?_
    subst hv
    exact s_ret (ev_kw (ev_v (i := 2) rfl) hd raw) fun v H3 e3 hv => k v H3 ((e1.trans e2).trans e3) hv
theorem ok_Pauses_and (G : Fc K mg) : Fn R.prog w K mg base 7 (f_Pauses_and K) (spComb K gmin) := by
  refine fnA G.d_Pauses_and sc_Pauses_and (fun _ _ _ _ _ _ us hl => match us, hl with | [_, _], _ => rfl) (fun vs H Q h => ?_) (fun vs H Q E h => h) (fun cdv A outer s H vs Q hr h => ?_)
  · obtain ⟨x, y, l, m, rfl, _⟩ := h
    rfl
  · obtain ⟨x, y, l, m, rfl, hx, hy, hl, hm, raw, k⟩ := h
    have nd := sc_Pauses_and.nd
    refine ⟨_, pss_cons (ps_expr (pe_m hr (pv 0) (pa_cons (pv 1) pa_nil))) <|
      pss_cons (ps_setDc (i := 2) (tk := tVar 3) (tv := tCB rMn (tCons (tInt (tOp (rGetO K (f_Pauses_getitem K) (spPGet K)) (tVar 0) (tVar 3))) (tCons (tInt (tOp (rGetO K (f_Pauses_getitem K) (spPGet K)) (tVar 1) (tVar 3))) tNil))) (own := [("place", 3)]) (g := gName 3) (by rfl) nd rfl rfl (sw_trueD rfl rfl rfl (by decide +kernel)) (pi_list (pe_m hr (pv 0) (pa_cons (pv 1) pa_nil))) (blkOk_by (own := [("place", 3)]) (N := ["self", "other", "found", "place"]) (sc := defScope s_Pauses_and) (by decide +kernel))
        (fun _ _ _ _ _ => pg_name (i := 3) nd rfl (Or.inl rfl)) (fun _ _ _ _ _ => pts_nil) (fun _ _ _ _ _ => pv 3) (fun _ _ _ _ _ => pe_callB (call_min2 rfl) (by rfl) G.b_min (by decide +kernel) (pa_cons (pe_callTy call_int1 (by rfl) G.b_int (by decide +kernel) (pa_cons (pe_ixO (ok_Pauses_getitem G) hr (pv 0) (pv 3)) pa_nil)) (pa_cons (pe_callTy call_int1 (by rfl) G.b_int (by decide +kernel) (pa_cons (pe_ixO (ok_Pauses_getitem G) hr (pv 1) (pv 3)) pa_nil)) pa_nil)))) <|
      pss_one (ps_ret (pe_kw G.m_Pauses (ok_Pauses_init G) hr G.g_Pauses (pv 2))), ?_⟩
    have h0 : EvP (tVar 0) [some x, some y, none, none] H (pauQ K l) := ev_var rfl hx
    have h1 : EvP (tVar 1) [some x, some y, none, none] H (pauQ K m) := ev_var rfl hy
    refine EvP.run (ev_m h0 (ea_cons h1 ea_nil) (mp_like G ⟨rfl, rfl, rfl⟩)) fun _ H1 e1 _ => ?_
    refine s_set (ev_comb (X := (cxOf CX0 R.prog w K mg base ["self", "other", "found", "place"] "Pauses.__and__" (defScope s_Pauses_and) (f_Pauses_and K) cdv A outer s H E0).nox) G ⟨rfl, rfl, rfl⟩ (by decide) (g := gmin) (Stab.st (nl_same e1) hx) (Stab.st (nl_same e1) hy) hl hm raw fun z hz =>
      ev_cb (ea_cons (ev_cb (ea_cons (ev_op (ev_var (i := 0) rfl (Stab.st (nl_same e1) hx)) (ev_v (i := 3) rfl) (rp_pget G hz)) ea_nil) cp_int) (ea_cons (ev_cb (ea_cons (ev_op (ev_var (i := 1) rfl (Stab.st (nl_same e1) hy)) (ev_v (i := 3) rfl) (rp_pget G hz)) ea_nil) cp_int) ea_nil)) cp_min) fun v H2 e2 ⟨d, hv, hd⟩ => ?_
    subst hv
    exact s_ret (ev_kw (ev_v (i := 2) rfl) hd raw) fun v H3 e3 hv => k v H3 ((e1.trans e2).trans e3) hv
end
end K22

set_option Elab.async false
set_option linter.all false
set_option pp.maxSteps 400
set_option maxRecDepth 100000
set_option maxHeartbeats 4000000
/-! P6: pauses compared. -/
namespace K22
open PySem PySem.Spec PyProof.Rows L2
section
variable {w : World} {K : PySem.W.Frag} {mg : Str → Option Value} {base : Heap}
def leP (l m : Pz) : Bool := (keysP l).all fun z => decide (look l z ≤ look m z)
theorem ei_tupQ {σ : L2.St} {H : Hp} {te : TE} {zs : List Str} (h : EvP te σ H (tupQ (txQ zs))) : EiT K (iTup K te) σ H (zs.map V.str) := fun H1 e R k => h H1 e _ fun v H2 e2 ⟨a, vs, hv, ha, hs⟩ => by
  rw [txQ_all hs] at ha
  exact ⟨a, hv, ⟨_, SqT.of ha⟩, k a H2 e2 (SqT.of ha)⟩
theorem cp_all {bs : List Bool} {H : Hp} : CP (rAll K) [lstQ (bs.map fun b => is (.bl b))] H (is (.bl (bs.all id))) := fun H1 e vs hv Q k => by
  obtain ⟨v, ws, rfl, ⟨a, xs, rfl, ha, hx⟩, h2⟩ := all2_cons hv
  cases h2
  have ev : xs = bs.map V.bl := all2_is (xs := bs.map V.bl) (vs := xs) (H := H1) (by rw [List.map_map]; exact hx)
  subst ev
  exact ⟨a, bs, rfl, SqL.of ha, k _ H1 (Same.refl H1) rfl⟩
theorem ev_allP {x y : V} {H : Hp} {tr te : TE} {zs : List Str} {b : Str → Bool} (hl : zs.length ≤ 1000) (hr : EvP tr [some x, some y, none] H (tupQ (txQ zs))) (he : ∀ z ∈ zs, EvP te [some x, some y, some (.str z)] H (is (.bl (b z)))) :
    EvP (tCB (rAll K) (tCons (tLc (iTup K tr) (gName 2) tYes te [2]) tNil)) [some x, some y, none] H (is (.bl (zs.all b))) := by
  have hlc := ev_lcT (K := K) (g := gName 2) (vs := [2]) (tt := tYes) (te := te) (ei_tupQ (K := K) hr) (fun _ => true) (fun i => is (.bl (b (zs.getD i default)))) (by rw [List.length_map]; exact hl) fun i v hi => by
    rw [List.getElem?_map] at hi
    cases q : zs[i]? with
    | none => rw [q] at hi; cases hi
    | some z =>
      rw [q] at hi
      cases hi
      have e : zs.getD i default = z := by rw [List.getD_eq_getElem?_getD, q]; rfl
      rw [e]
      exact ⟨[some x, some y, some (.str z)], rfl, fun H' R hR => hR, et_yes, fun _ => he z (List.mem_of_getElem? q)⟩
  rw [show keptQ (fun _ => true) (fun i => is (.bl (b (zs.getD i default)))) (zs.map V.str).length = (zs.map b).map fun c => is (.bl c) by
    rw [List.length_map, List.map_map]
    exact range_map1 zs default fun z => is (.bl (b z))] at hlc
  refine ev_eq (ev_cb (ea_cons hlc ea_nil) cp_all) ?_
  rw [List.all_map]
  rfl
def spCmpP (K : PySem.W.Frag) (f : Pz → Pz → Bool) : Sp := fun vs H Q _ => ∃ (x y : V) (l m : Pz), vs = [x, y] ∧ pauQ K l x H ∧ pauQ K m y H ∧ l.Ok ∧ m.Ok ∧ ∀ H', Same H H' → Q (.bl (f l m)) H'
theorem keys_len {l : Pz} (h : l.Ok) : (keysP l).length ≤ 1000 := by
  have := h.len
  unfold keysP
  rw [List.length_map]
  omega
theorem sc_Pauses_eq : FnScope ["self", "other"] ["self", "other"] (defScope s_Pauses_eq) := ⟨rfl, rfl, rfl, by decide +kernel, rfl, by decide +kernel, by decide +kernel⟩
theorem rp_eqDI {l m : Pz} {H : Hp} (hl : l.Ok) (hm : m.Ok) : RP rEqDI (dPz l) (dPz m) H (is (.bl (decide (l = m)))) := fun H1 e x y ⟨a, hx, ha⟩ ⟨b, hy, hb⟩ Q k => by
  refine ⟨a, b, _, _, hx, hy, ha, hb, fun p hp => ?_, fun key v hv => ?_, ?_⟩
  · unfold inrs pzV at hp
    rw [List.map_map] at hp
    obtain ⟨q, _, rfl⟩ := List.mem_map.mp hp
    exact ⟨q.2, rfl⟩
  · unfold valV at hv
    cases q : (inrs (pzV m)).find? fun kv => decide (kv.1 = key) with
    | none => rw [q] at hv; cases hv
    | some p =>
      rw [q] at hv
      have hp := List.mem_of_find?_eq_some q
      unfold inrs pzV at hp
      rw [List.map_map] at hp
      obtain ⟨r, _, rfl⟩ := List.mem_map.mp hp
      exact ⟨r.2, (Option.some.inj hv).symm⟩
  · rw [eqKv_iff hl hm]
    exact k _ H1 (Same.refl H1) rfl
theorem ok_Pauses_eq (G : Fc K mg) : Fn R.prog w K mg base 1 (f_Pauses_eq K) (spCmpP K fun l m => decide (l = m)) := by
  refine fnA G.d_Pauses_eq sc_Pauses_eq (fun _ _ _ _ _ _ us hl => match us, hl with | [_, _], _ => rfl) (fun vs H Q h => ?_) (fun vs H Q E h => h) (fun cdv A outer s H vs Q hr h => ?_)
  · obtain ⟨x, y, l, m, rfl, _⟩ := h
    rfl
  · obtain ⟨x, y, l, m, rfl, hx, hy, hl, hm, k⟩ := h
    refine ⟨_, pss_one (ps_ret (pe_and (pe_callB call_isi (by rfl) G.b_isinstance (by decide +kernel) (pa_cons (pv 1) (pa_cons (pe_glob (v := .ref (cPauses K)) (by rfl) G.g_Pauses rfl) pa_nil))) (pe_one (pe_cmpR (op_eqDI (Nat.lt_of_le_of_lt (Nat.le_add_right _ 64) hr.units)) (pe_fld (pv 0) rfl) (pe_fld (pv 1) rfl) (nomark _))))), ?_⟩
    have h0 : EvP (tVar 0) [some x, some y] H (pauQ K l) := ev_var rfl hx
    have h1 : EvP (tVar 1) [some x, some y] H (pauQ K m) := ev_var rfl hy
    refine s_ret (ev_andV (ev_cb (ea_cons h1 (ea_cons ev_k ea_nil)) (cp_isPau G)) fun _ => ev_op (ev_pnums G h0) (ev_pnums G h1) (rp_eqDI hl hm)) fun v H2 e2 hv => ?_
    cases hv
    exact k H2 e2
theorem rp_nePau (G : Fc K mg) {l m : Pz} {H : Hp} (hl : l.Ok) (hm : m.Ok) : RP (rNeO K (f_Pauses_eq K) (spCmpP K fun l m => decide (l = m))) (pauQ K l) (pauQ K m) H (is (.bl (!decide (l = m)))) := fun H1 e x y hx hy Q k => by
  obtain ⟨x, rfl, dx, d, r, h1, _⟩ := id hx
  obtain ⟨y, rfl, dy, d', r', h2, _⟩ := id hy
  exact ⟨x, _, dx, _, y, _, dy, _, rfl, rfl, h1, h2, G.h_Pauses_eq, G.ne_Pauses, G.nf_Pauses_Pauses, _, _, l, m, rfl, hx, hy, hl, hm, fun H' e' => ⟨_, rfl, k _ H' e' rfl⟩⟩
theorem sc_Pauses_le : FnScope ["self", "other", "place"] ["self", "other"] (defScope s_Pauses_le) := ⟨rfl, rfl, rfl, by decide +kernel, rfl, by decide +kernel, by decide +kernel⟩
theorem sc_Pauses_ge : FnScope ["self", "other", "place"] ["self", "other"] (defScope s_Pauses_ge) := ⟨rfl, rfl, rfl, by decide +kernel, rfl, by decide +kernel, by decide +kernel⟩
theorem sc_Pauses_lt : FnScope ["self", "other", "place"] ["self", "other"] (defScope s_Pauses_lt) := ⟨rfl, rfl, rfl, by decide +kernel, rfl, by decide +kernel, by decide +kernel⟩
theorem ok_Pauses_le (G : Fc K mg) : Fn R.prog w K mg base 4 (f_Pauses_le K) (spCmpP K leP) := by
  refine fnA G.d_Pauses_le sc_Pauses_le (fun _ _ _ _ _ _ us hl => match us, hl with | [_, _], _ => rfl) (fun vs H Q h => ?_) (fun vs H Q E h => h) (fun cdv A outer s H vs Q hr h => ?_)
  · obtain ⟨x, y, l, m, rfl, _⟩ := h
    rfl
  · obtain ⟨x, y, l, m, rfl, hx, hy, hl, hm, k⟩ := h
    have nd := sc_Pauses_le.nd
    refine ⟨_, pss_cons (ps_expr (pe_m hr (pv 0) (pa_cons (pv 1) pa_nil))) <|
      pss_one (ps_ret (pe_callB (cr_all rfl) (by rfl) G.b_all (by decide +kernel) (pa_cons (pe_lc (te := tOp (rI0 fun i j => .bl (decide (i ≤ j))) (tOp (rGetO K (f_Pauses_getitem K) (spPGet K)) (tVar 0) (tVar 2)) (tOp (rGetO K (f_Pauses_getitem K) (spPGet K)) (tVar 1) (tVar 2))) (own := [("place", 2)]) (g := gName 2) (by rfl) nd (pi_tup (pe_fld (pv 0) rfl)) (blkOk_by (own := [("place", 2)]) (N := ["self", "other", "place"]) (sc := defScope s_Pauses_le) (by decide +kernel))
        (fun _ _ _ _ _ => pg_name (i := 2) nd rfl (Or.inl rfl)) (fun _ _ _ _ _ => pts_nil) (fun _ _ _ _ _ => pe_cmpR op_le (pe_ixO (ok_Pauses_getitem G) hr (pv 0) (pv 2)) (pe_ixO (ok_Pauses_getitem G) hr (pv 1) (pv 2)) (nomark _))) pa_nil))), ?_⟩
    have h0 : EvP (tVar 0) [some x, some y, none] H (pauQ K l) := ev_var rfl hx
    have h1 : EvP (tVar 1) [some x, some y, none] H (pauQ K m) := ev_var rfl hy
    refine EvP.run (ev_m h0 (ea_cons h1 ea_nil) (mp_like G ⟨rfl, rfl, rfl⟩)) fun _ H1 e1 _ => ?_
    have hx1 := Stab.st (nl_same e1) hx
    have hy1 := Stab.st (nl_same e1) hy
    refine s_ret (ev_allP (b := fun z => decide (look l z ≤ look m z)) (keys_len hl) (EvP.mono e1 (ev_prows G h0)) fun z hz => ev_op (ev_op (ev_var (i := 0) rfl hx1) (ev_v (i := 2) rfl) (rp_pget G (hl.nm z hz))) (ev_op (ev_var (i := 1) rfl hy1) (ev_v (i := 2) rfl) (rp_pget G (hl.nm z hz))) rp_I0) fun v H2 e2 hv => ?_
    cases hv
    exact k H2 (e1.trans e2)
theorem ok_Pauses_ge (G : Fc K mg) : Fn R.prog w K mg base 4 (f_Pauses_ge K) (spCmpP K fun l m => leP m l) := by
  refine fnA G.d_Pauses_ge sc_Pauses_ge (fun _ _ _ _ _ _ us hl => match us, hl with | [_, _], _ => rfl) (fun vs H Q h => ?_) (fun vs H Q E h => h) (fun cdv A outer s H vs Q hr h => ?_)
  · obtain ⟨x, y, l, m, rfl, _⟩ := h
    rfl
  · obtain ⟨x, y, l, m, rfl, hx, hy, hl, hm, k⟩ := h
    have nd := sc_Pauses_ge.nd
    refine ⟨_, pss_cons (ps_expr (pe_m hr (pv 0) (pa_cons (pv 1) pa_nil))) <|
      pss_one (ps_ret (pe_callB (cr_all rfl) (by rfl) G.b_all (by decide +kernel) (pa_cons (pe_lc (te := tOp (rI0 fun i j => .bl (decide (i ≤ j))) (tOp (rGetO K (f_Pauses_getitem K) (spPGet K)) (tVar 1) (tVar 2)) (tOp (rGetO K (f_Pauses_getitem K) (spPGet K)) (tVar 0) (tVar 2))) (own := [("place", 2)]) (g := gName 2) (by rfl) nd (pi_tup (pe_fld (pv 1) rfl)) (blkOk_by (own := [("place", 2)]) (N := ["self", "other", "place"]) (sc := defScope s_Pauses_ge) (by decide +kernel))
        (fun _ _ _ _ _ => pg_name (i := 2) nd rfl (Or.inl rfl)) (fun _ _ _ _ _ => pts_nil) (fun _ _ _ _ _ => pe_cmpR op_le (pe_ixO (ok_Pauses_getitem G) hr (pv 1) (pv 2)) (pe_ixO (ok_Pauses_getitem G) hr (pv 0) (pv 2)) (nomark _))) pa_nil))), ?_⟩
    have h0 : EvP (tVar 0) [some x, some y, none] H (pauQ K l) := ev_var rfl hx
    have h1 : EvP (tVar 1) [some x, some y, none] H (pauQ K m) := ev_var rfl hy
    refine EvP.run (ev_m h0 (ea_cons h1 ea_nil) (mp_like G ⟨rfl, rfl, rfl⟩)) fun _ H1 e1 _ => ?_
    have hx1 := Stab.st (nl_same e1) hx
    have hy1 := Stab.st (nl_same e1) hy
    refine s_ret (ev_allP (b := fun z => decide (look m z ≤ look l z)) (keys_len hm) (EvP.mono e1 (ev_prows G h1)) fun z hz => ev_op (ev_op (ev_var (i := 1) rfl hy1) (ev_v (i := 2) rfl) (rp_pget G (hm.nm z hz))) (ev_op (ev_var (i := 0) rfl hx1) (ev_v (i := 2) rfl) (rp_pget G (hm.nm z hz))) rp_I0) fun v H2 e2 hv => ?_
    cases hv
    exact k H2 (e1.trans e2)
theorem ok_Pauses_lt (G : Fc K mg) : Fn R.prog w K mg base 4 (f_Pauses_lt K) (spCmpP K fun l m => !decide (l = m) && leP l m) := by
  refine fnA G.d_Pauses_lt sc_Pauses_lt (fun _ _ _ _ _ _ us hl => match us, hl with | [_, _], _ => rfl) (fun vs H Q h => ?_) (fun vs H Q E h => h) (fun cdv A outer s H vs Q hr h => ?_)
  · obtain ⟨x, y, l, m, rfl, _⟩ := h
    rfl
  · obtain ⟨x, y, l, m, rfl, hx, hy, hl, hm, k⟩ := h
    have nd := sc_Pauses_lt.nd
    refine ⟨_, pss_cons (ps_expr (pe_m hr (pv 0) (pa_cons (pv 1) pa_nil))) <|
      pss_one (ps_ret (pe_and (pe_cmpR (op_neO (ok_Pauses_eq G) hr) (pv 0) (pv 1) (nomark _)) (pe_one (pe_callB (cr_all rfl) (by rfl) G.b_all (by decide +kernel) (pa_cons (pe_lc (te := tOp (rI0 fun i j => .bl (decide (i ≤ j))) (tOp (rGetO K (f_Pauses_getitem K) (spPGet K)) (tVar 0) (tVar 2)) (tOp (rGetO K (f_Pauses_getitem K) (spPGet K)) (tVar 1) (tVar 2))) (own := [("place", 2)]) (g := gName 2) (by rfl) nd (pi_tup (pe_fld (pv 0) rfl)) (blkOk_by (own := [("place", 2)]) (N := ["self", "other", "place"]) (sc := defScope s_Pauses_lt) (by decide +kernel))
        (fun _ _ _ _ _ => pg_name (i := 2) nd rfl (Or.inl rfl)) (fun _ _ _ _ _ => pts_nil) (fun _ _ _ _ _ => pe_cmpR op_le (pe_ixO (ok_Pauses_getitem G) hr (pv 0) (pv 2)) (pe_ixO (ok_Pauses_getitem G) hr (pv 1) (pv 2)) (nomark _))) pa_nil))))), ?_⟩
    have h0 : EvP (tVar 0) [some x, some y, none] H (pauQ K l) := ev_var rfl hx
    have h1 : EvP (tVar 1) [some x, some y, none] H (pauQ K m) := ev_var rfl hy
    refine EvP.run (ev_m h0 (ea_cons h1 ea_nil) (mp_like G ⟨rfl, rfl, rfl⟩)) fun _ H1 e1 _ => ?_
    have hx1 := Stab.st (nl_same e1) hx
    have hy1 := Stab.st (nl_same e1) hy
    refine s_ret (ev_andV (ev_op (EvP.mono e1 h0) (EvP.mono e1 h1) (rp_nePau G hl hm)) fun _ => ev_allP (b := fun z => decide (look l z ≤ look m z)) (keys_len hl) (EvP.mono e1 (ev_prows G h0)) fun z hz => ev_op (ev_op (ev_var (i := 0) rfl hx1) (ev_v (i := 2) rfl) (rp_pget G (hl.nm z hz))) (ev_op (ev_var (i := 1) rfl hy1) (ev_v (i := 2) rfl) (rp_pget G (hl.nm z hz))) rp_I0) fun v H2 e2 hv => ?_
    cases hv
    exact k H2 (e1.trans e2)
end
end K22

set_option Elab.async false
set_option linter.all false
set_option pp.maxSteps 400
set_option maxRecDepth 100000
set_option maxHeartbeats 4000000
/-! P7: pauses: put, told. -/
namespace K22
open PySem PySem.Spec PyProof.Rows L2
def putP (l : Pz) (z : Str) (i : Int) : Pz := if z ∈ keysP l then l.map (fun p => if p.1 = z then (p.1, i) else p) else l ++ [(z, i)]
theorem putP_keys (l : Pz) (z : Str) (i : Int) : keysP (putP l z i) = if z ∈ keysP l then keysP l else keysP l ++ [z] := by
  unfold putP keysP
  split
  · rw [List.map_map]
    refine List.map_congr_left fun p _ => ?_
    show (if p.1 = z then (p.1, i) else p).1 = p.1
    split <;> rfl
  · rw [List.map_append]; rfl
theorem keys_cons {p : Str × Int} {l : Pz} {y : Str} : y ∈ keysP (p :: l) ↔ y = p.1 ∨ y ∈ keysP l := List.mem_cons
theorem find_app {l : Pz} {q : Str × Int} {y : Str} : look (l ++ [q]) y = if y ∈ keysP l then look l y else if q.1 = y then q.2 else 0 := by
  induction l with
  | nil =>
    have h : ¬ (y ∈ keysP []) := List.not_mem_nil
    rw [List.nil_append, look_cons, look_nil, if_neg h]
  | cons p l ih =>
    rw [List.cons_append, look_cons, look_cons, ih]
    by_cases h : p.1 = y
    · have m : y ∈ keysP (p :: l) := keys_cons.mpr (.inl h.symm)
      rw [if_pos h, if_pos h, if_pos m]
    · rw [if_neg h, if_neg h]
      by_cases h2 : y ∈ keysP l
      · have m : y ∈ keysP (p :: l) := keys_cons.mpr (.inr h2)
        rw [if_pos h2, if_pos m]
      · have m : ¬ (y ∈ keysP (p :: l)) := fun q => (keys_cons.mp q).elim (fun e => h e.symm) h2
        rw [if_neg h2, if_neg m]
theorem look_map (l : Pz) (z y : Str) (i : Int) : look (l.map fun p => if p.1 = z then (p.1, i) else p) y = if y ∈ keysP l then (if y = z then i else look l y) else 0 := by
  induction l with
  | nil =>
    have h : ¬ (y ∈ keysP []) := List.not_mem_nil
    rw [List.map_nil, look_nil, if_neg h]
  | cons p l ih =>
    rw [List.map_cons, look_cons, ih, look_cons]
    have hk : (if p.1 = z then (p.1, i) else p).1 = p.1 := by split <;> rfl
    rw [hk]
    by_cases h : p.1 = y
    · have m : y ∈ keysP (p :: l) := keys_cons.mpr (.inl h.symm)
      rw [if_pos h, if_pos m, if_pos h]
      subst h
      by_cases e : p.1 = z
      · rw [if_pos e, if_pos e]
      · rw [if_neg e, if_neg e]
    · rw [if_neg h, if_neg h]
      by_cases h2 : y ∈ keysP l
      · have m : y ∈ keysP (p :: l) := keys_cons.mpr (.inr h2)
        rw [if_pos h2, if_pos m]
      · have m : ¬ (y ∈ keysP (p :: l)) := fun q => (keys_cons.mp q).elim (fun e => h e.symm) h2
        rw [if_neg h2, if_neg m]
theorem look_put (l : Pz) (z y : Str) (i : Int) : look (putP l z i) y = if y = z then i else look l y := by
  unfold putP
  split
  · rename_i hz
    rw [look_map]
    by_cases h : y ∈ keysP l
    · rw [if_pos h]
    · rw [if_neg h, if_neg (fun e => h (by rw [e]; exact hz)), look_not h]
  · rename_i hz
    rw [find_app]
    by_cases h : y ∈ keysP l
    · rw [if_pos h, if_neg (fun e => hz (by rw [← e]; exact h))]
    · rw [if_neg h]
      by_cases e : y = z
      · rw [if_pos e, if_pos e.symm]
      · rw [if_neg e, if_neg (fun q => e q.symm), look_not h]
theorem putP_raw {l : Pz} (h : l.Ok) {z : Str} {i : Int} (hz : nameOk z = true) (h0 : 0 ≤ i) (h1 : i ≤ 1000000000000) (hl : l.length < 60) : (putP l z i).Raw := by
  have hk := putP_keys l z i
  have hn := strict_nd h.srt
  have hkl : (keysP l).length = l.length := List.length_map _
  have hlen : (putP l z i).length = (keysP (putP l z i)).length := (List.length_map _).symm
  have mem : ∀ p ∈ putP l z i, p.2 = i ∨ p ∈ l := by
    intro p hp
    unfold putP at hp
    split at hp
    · obtain ⟨q, hq, rfl⟩ := List.mem_map.mp hp
      split
      · exact .inl rfl
      · exact .inr hq
    · rcases List.mem_append.mp hp with hp | hp
      · exact .inr hp
      · rw [List.mem_singleton.mp hp]; exact .inl rfl
  refine ⟨?_, ?_, ?_, ?_, ?_⟩
  · rw [hk]
    split
    · exact hn
    · rename_i hz
      refine List.nodup_append.mpr ⟨hn, by simp, fun a ha b hb => ?_⟩
      rw [List.mem_singleton.mp hb]
      exact fun e => hz (e ▸ ha)
  · intro y hy
    rw [hk] at hy
    split at hy
    · exact h.nm y hy
    · rcases List.mem_append.mp hy with hy | hy
      · exact h.nm y hy
      · rw [List.mem_singleton.mp hy]; exact hz
  · intro p hp
    rcases mem p hp with e | hp
    · omega
    · have := h.lo p hp; omega
  · intro p hp
    rcases mem p hp with e | hp
    · omega
    · exact h.hi p hp
  · rw [hlen, hk]
    split
    · omega
    · rw [List.length_append, List.length_singleton]; omega
theorem pzV_put (l : Pz) (z : Str) (i : Int) : putK (inrs (pzV l)) (Sum.inr z : Key) (.int i) = inrs (pzV (putP l z i)) := by
  unfold putK putP
  have hany : ((inrs (pzV l)).any fun kv => decide (kv.1 = (Sum.inr z : Key))) = decide (z ∈ keysP l) := by
    rw [Bool.eq_iff_iff, List.any_eq_true, decide_eq_true_iff]
    unfold inrs pzV keysP
    rw [List.map_map]
    constructor
    · rintro ⟨q, hq, e⟩
      obtain ⟨p, hp, rfl⟩ := List.mem_map.mp hq
      have : p.1 = z := by
        have := of_decide_eq_true e
        injection this
      exact List.mem_map.mpr ⟨p, hp, this⟩
    · intro hz
      obtain ⟨p, hp, rfl⟩ := List.mem_map.mp hz
      exact ⟨_, List.mem_map.mpr ⟨p, hp, rfl⟩, by simp⟩
  rw [hany]
  by_cases h : z ∈ keysP l
  · rw [decide_eq_true h, if_pos rfl, if_pos h]
    unfold inrs pzV
    rw [List.map_map, List.map_map, List.map_map, List.map_map]
    refine List.map_congr_left fun p _ => ?_
    show (if (Sum.inr p.1 : Key) = Sum.inr z then ((Sum.inr p.1 : Key), V.int i) else (Sum.inr p.1, V.int p.2)) = (Sum.inr (if p.1 = z then (p.1, i) else p).1, V.int (if p.1 = z then (p.1, i) else p).2)
    by_cases e : p.1 = z
    · rw [if_pos e, if_pos (by rw [e])]
    · rw [if_neg e, if_neg (fun q => e (by injection q))]
  · rw [decide_eq_false h, if_neg (by simp), if_neg h]
    unfold inrs pzV
    rw [List.map_append, List.map_append]
    rfl
section
variable {w : World} {K : PySem.W.Frag} {mg : Str → Option Value} {base : Heap}
theorem ev_dd {td tk tv : TE} {σ : L2.St} {H : Hp} {o : Addr} {l : Pz} {z : Str} {i : Int} (hd : EvP td σ H (is (.ref o))) (ho : H o = some (.dK (inrs (pzV l)))) (nd : (keysP l).Nodup) (hl : l.length ≤ 1000) (hk : EvP tk σ H (is (.str z))) (hv : EvP tv σ H (is (.int i))) :
    EvP (tDD td tk tv) σ H (dPz (putP l z i)) := fun H1 e Q k D hD =>
  hd (upd H1 D (.dK [])) (e.trans (same_new hD)) _ fun v H2 e2 hv2 => by
  have ho1 := e _ _ ho
  have nD : D ≠ o := by rintro rfl; rw [hD] at ho1; cases ho1
  have ho2 := e2 _ _ (same_new hD _ _ ho1)
  refine ⟨o, _, hv2, nD, e2 _ _ upd_same, ho2, ?_, ?_, fun S hS => ?_⟩
  · rw [inrs_fst, pzV_keys]
    exact (List.pairwise_map.mpr (List.Pairwise.imp (fun h q => h (by injection q)) nd))
  · unfold inrs
    rw [List.length_map, pzV_len]
    exact hl
  have sE : Same H (upd (upd H2 D (.dK (inrs (pzV l)))) S (.dK [])) := fun b q hb => by
    have hb1 := e _ _ hb
    have nb : b ≠ D := by rintro rfl; rw [hD] at hb1; cases hb1
    have hb2 : H2 b = some q := e2 _ _ (by rw [upd_ne nb]; exact hb1)
    have hb3 : upd H2 D (.dK (inrs (pzV l))) b = some q := by rw [upd_ne nb]; exact hb2
    rw [upd_ne (ne_of_none hb3 hS)]
    exact hb3
  refine hk _ sE _ fun y H3 e3 hy => hv _ (sE.trans e3) _ fun u H4 e4 hu => ?_
  cases hu
  have nDS : D ≠ S := by rintro rfl; rw [upd_same] at hS; cases hS
  have e24 := e3.trans e4
  refine ⟨Sum.inr z, hy, e24 _ _ (by rw [upd_ne nDS]; exact upd_same), e24 _ _ upd_same, nDS, k (.ref D) _ (fun b q hb => ?_) ⟨D, rfl, by rw [upd_same, pzV_put]⟩⟩
  have nb : b ≠ D := by rintro rfl; rw [hD] at hb; cases hb
  have hb2 : H2 b = some q := e2 _ _ (by rw [upd_ne nb]; exact hb)
  have hb3 : upd H2 D (.dK (inrs (pzV l))) b = some q := by rw [upd_ne nb]; exact hb2
  have nS := ne_of_none hb3 hS
  rw [upd_ne nb, upd_ne nS]
  exact e24 _ _ (by rw [upd_ne nS]; exact hb3)
theorem pau_nums (G : Fc K mg) {l : Pz} {x : V} {H : Hp} (h : pauQ K l x H) : ∃ d, H d = some (.dK (inrs (pzV l))) ∧ ∀ te σ, EvP te σ H (is x) → EvP (tFld K te "numbers") σ H (is (.ref d)) := by
  obtain ⟨x, rfl, dx, d, r, h1, h2, h3⟩ := h
  exact ⟨d, h2, fun te σ he H1 e Q k => he H1 e _ fun v H2 e2 hv => ⟨x, _, dx, _, .ref d, hv, e2 _ _ (e _ _ h1), G.c_Pauses, G.n_Pauses_numbers, rfl, k _ H2 e2 rfl⟩⟩
def spPut (K : PySem.W.Frag) : Sp := fun vs H Q _ => ∃ (x : V) (l : Pz) (z : Str) (i : Int), vs = [x, .str z, .int i] ∧ pauQ K l x H ∧ l.Ok ∧ nameOk z = true ∧ 0 ≤ i ∧ i ≤ 1000000000000 ∧ l.length < 60 ∧ ∀ v H', Same H H' → pauQ K (norm (putP l z i)) v H' → Q v H'
theorem sc_Pauses_put : FnScope ["self", "place", "number", "found"] ["self", "place", "number"] (defScope s_Pauses_put) := ⟨rfl, rfl, rfl, by decide +kernel, rfl, by decide +kernel, by decide +kernel⟩
theorem ok_Pauses_put (G : Fc K mg) : Fn R.prog w K mg base 7 (f_Pauses_put K) (spPut K) := by
  refine fnA G.d_Pauses_put sc_Pauses_put (fun _ _ _ _ _ _ us hl => match us, hl with | [_, _, _], _ => rfl) (fun vs H Q h => ?_) (fun vs H Q E h => h) (fun cdv A outer s H vs Q hr h => ?_)
  · obtain ⟨x, l, z, i, rfl, _⟩ := h
    rfl
  · obtain ⟨x, l, z, i, rfl, hx, hl, hz, h0, h1, hlen, k⟩ := h
    have nd := sc_Pauses_put.nd
    refine ⟨_, pss_cons (ps_if (pt_not (pt_val (pe_f (ok_is_name G) hr G.g_is_name G.d_is_name.choose_spec.kp (pa_cons (pv 1) pa_nil)))) pss_never pss_nil) <|
      pss_cons (ps_if (pt_not (pt_val (pe_f (ok_is_number G) hr G.g_is_number G.d_is_number.choose_spec.kp (pa_cons (pv 2) pa_nil)))) pss_never pss_nil) <|
      pss_cons (ps_set (i := 3) nd rfl (Or.inl rfl) (pe_dd (pe_fld (pv 0) rfl) (pv 1) (pv 2) (fun σ H Q Q' h ⟨v, hv, q⟩ => ⟨v, hv, h _ _ q⟩) (fun σ H Q Q' h ⟨v, hv, q⟩ => ⟨v, hv, h _ _ q⟩))) <|
      pss_one (ps_ret (pe_kw G.m_Pauses (ok_Pauses_init G) hr G.g_Pauses (pv 3))), ?_⟩
    refine s_skip (et_not (b := true) (et_B (ev_f (ea_cons (ev_v (i := 1) (v := .str z) rfl) ea_nil) (sp_isName hz)))) fun H1 e1 => ?_
    refine s_skip (et_not (b := true) (et_B (ev_f (ea_cons (ev_v (i := 2) (v := .int i) rfl) ea_nil) (sp_isNum h0 h1)))) fun H2 e2 => ?_
    obtain ⟨d, hd, hf⟩ := pau_nums G (Stab.st (nl_same (e1.trans e2)) hx)
    refine s_set (ev_dd (hf _ _ (ev_v (i := 0) rfl)) hd (strict_nd hl.srt) (by omega) (ev_v (i := 1) rfl) (ev_v (i := 2) rfl)) fun v H3 e3 ⟨d2, hv, hd2⟩ => ?_
    subst hv
    exact s_ret (ev_kw (ev_v (i := 3) rfl) hd2 (putP_raw hl hz h0 h1 hlen)) fun v H4 e4 hv => k v H4 (((e1.trans e2).trans e3).trans e4) hv
end
end K22

set_option Elab.async false
set_option linter.all false
set_option pp.maxSteps 400
set_option maxRecDepth 100000
set_option maxHeartbeats 4000000
/-! P8: pauses told. -/
namespace K22
open PySem PySem.Spec PyProof.Rows L2
def rowP (l : Pz) (z : Str) : Str := catS Str.empty [z, " ", toString (look l z)]
def textP (l : Pz) : Str := if l = [] then "-" else Str.join " " ((keysP l).map (rowP l))
section
variable {w : World} {K : PySem.W.Frag} {mg : Str → Option Value} {base : Heap}
theorem ev_join {te : TE} {σ : L2.St} {H : Hp} {a : Str} {ys : List Str} (h : EvP te σ H (lstQ (txQ ys))) (hl : (ys.map (·.length)).sum + ys.length * a.length ≤ 16777216) :
    EvP (tM1 (fun x xs H Q => ∃ a p, ∃ ys : List Str, x = .str a ∧ xs = [.ref p] ∧ (SqL K H p (ys.map V.str) ∨ SqT K H p (ys.map V.str)) ∧ (ys.map (·.length)).sum + ys.length * a.length ≤ 16777216 ∧ Q (.str (Txt.join a ys)) H) (tC (.str a)) te) σ H (is (.str (Str.join a ys))) := fun H1 e Q k =>
  ⟨⟨a, rfl⟩, h H1 e _ fun v H2 e2 ⟨p, vs, hv, hp, hs⟩ => by
    rw [txQ_all hs] at hp
    refine ⟨a, p, ys, rfl, by rw [hv], .inl (SqL.of hp), hl, ?_⟩
    rw [TL.join_eq]
    exact k _ H2 e2 rfl⟩
def spTellP (K : PySem.W.Frag) : Sp := fun vs H Q _ => ∃ (x : V) (l : Pz), vs = [x] ∧ pauQ K l x H ∧ l.Ok ∧ ∀ H', Same H H' → Q (.str (textP l)) H'
theorem sc_Pauses_str : FnScope ["self", "place"] ["self"] (defScope s_Pauses_str) := ⟨rfl, rfl, rfl, by decide +kernel, rfl, by decide +kernel, by decide +kernel⟩
theorem row_len {l : Pz} (hl : l.Ok) {z : Str} (hz : z ∈ keysP l) : z.length + (1 + (toString (look l z) : Str).length) ≤ 22 := by
  have n1 := name_len (hl.nm z hz)
  obtain ⟨p, hp, e, e2⟩ := look_at hz
  have n2 := toStr_len (i := look l z) (by have := hl.lo p hp; omega) (by have := hl.hi p hp; omega)
  omega
theorem sum_le {xs : List Nat} {b : Nat} (h : ∀ x ∈ xs, x ≤ b) : xs.sum ≤ xs.length * b := by
  induction xs with
  | nil => simp
  | cons x xs ih =>
    rw [List.sum_cons, List.length_cons, Nat.succ_mul]
    have h1 := h x (.head _)
    have h2 := ih fun y hy => h y (.tail _ hy)
    omega
theorem ok_Pauses_str (G : Fc K mg) : Fn R.prog w K mg base 1 (f_Pauses_str K) (spTellP K) := by
  refine fnA G.d_Pauses_str sc_Pauses_str (fun _ _ _ _ _ _ us hl => match us, hl with | [_], _ => rfl) (fun vs H Q h => ?_) (fun vs H Q E h => h) (fun cdv A outer s H vs Q hr h => ?_)
  · obtain ⟨x, l, rfl, _⟩ := h
    rfl
  · obtain ⟨x, l, rfl, hx, hl, k⟩ := h
    have nd := sc_Pauses_str.nd
    have hu := hu_of hr
    refine ⟨_, pss_cons (ps_if (pt_cmpR op_eq (pe_callB call_len_seq (by rfl) G.b_len PySem.boot_len (pa_cons (pe_fld (pv 0) rfl) pa_nil)) pe_int (nomark _)) (pss_one (ps_ret pe_str)) pss_nil) <|
      pss_one (ps_ret (pe_join pe_str (pe_lc (te := fun σ H Q => tJs [tFmt (tVar 1), tC (.str " "), tFmt (tDGet (tFld K (tVar 0) "numbers") (tVar 1))] Str.empty σ H fun out H1 => Q (.str out) H1) (own := [("place", 1)]) (g := gName 1) (by rfl) nd (pi_tup (pe_fld (pv 0) rfl)) (blkOk_by (own := [("place", 1)]) (N := ["self", "place"]) (sc := defScope s_Pauses_str) (by decide +kernel))
        (fun _ _ _ _ _ => pg_name (i := 1) nd rfl (Or.inl rfl)) (fun _ _ _ _ _ => pts_nil) (fun _ _ _ _ _ => pe_joined (.cons (pe_fmt (pv 1)) (.cons pe_str (.cons (pe_fmt (pe_dget hu (pe_fld (pv 0) rfl) (pv 1) (fun _ _ => rfl))) .nil))))))), ?_⟩
    have h0 : EvP (tVar 0) [some x, none] H (pauQ K l) := ev_var rfl hx
    have hkl : (keysP l).length ≤ 60 := by unfold keysP; rw [List.length_map]; exact hl.len
    have ht := ev_op (ev_cb (ea_cons (ev_prows G h0) ea_nil) (cp_lenU (K := K))) (ev_k (v := .int 0)) (rp_eq rfl)
    have hc : decide (V.int ((txQ (keysP l)).length : Nat) = V.int 0) = decide (l = []) := by
      unfold txQ keysP
      rw [List.length_map, List.length_map]
      refine decide_eq_decide.mpr ⟨fun h => ?_, fun h => by rw [h]; rfl⟩
      injection h with h
      exact List.length_eq_zero_iff.mp (by omega)
    rw [hc] at ht
    refine s_if (et_test ht) (fun hn H2 e2 => ?_) fun hn H2 e2 => ?_
    · have := k H2 e2
      unfold textP at this
      rw [if_pos (of_decide_eq_true hn)] at this
      exact this
    · have hx2 := Stab.st (nl_same e2) hx
      have h02 : EvP (tVar 0) [some x, none] H2 (pauQ K l) := ev_var rfl hx2
      obtain ⟨d, hd, hf⟩ := pau_nums G hx2
      have hlc := ev_lcT (K := K) (g := gName 1) (vs := [1]) (tt := tYes) (te := fun σ H Q => tJs [tFmt (tVar 1), tC (.str " "), tFmt (tDGet (tFld K (tVar 0) "numbers") (tVar 1))] Str.empty σ H fun out H1 => Q (.str out) H1) (ei_tupQ (K := K) (ev_prows G h02)) (fun _ => true) (fun i => is (.str (rowP l ((keysP l).getD i default)))) (by rw [List.length_map]; omega) fun i v hi => by
        rw [List.getElem?_map] at hi
        cases q : (keysP l)[i]? with
        | none => rw [q] at hi; cases hi
        | some z =>
          rw [q] at hi
          cases hi
          have e : (keysP l).getD i default = z := by rw [List.getD_eq_getElem?_getD, q]; rfl
          rw [e]
          have hz := List.mem_of_getElem? q
          have n1 := name_len (hl.nm z hz)
          have n2 := row_len hl hz
          obtain ⟨p, hp, _, e2⟩ := look_at hz
          have b0 := hl.lo p hp
          have b1 := hl.hi p hp
          refine ⟨[some x, some (.str z)], rfl, fun H' R hR => hR, et_yes, fun _ => ?_⟩
          refine ev_joined (.cons (ev_fmtS (ev_v (i := 1) rfl) (by omega)) (.cons ev_k (.cons (ev_fmtI (ev_dget hd (hf _ _ (ev_v (i := 0) rfl)) (ev_v (i := 1) rfl) (pzV_look hz) rfl) (by omega)) .nil))) ?_
          have s1 : ((" " : Str)).length = 1 := rfl
          simp only [List.map_cons, List.map_nil, List.sum_cons, List.sum_nil, s1]
          omega
      rw [show keptQ (fun _ => true) (fun i => is (.str (rowP l ((keysP l).getD i default)))) ((keysP l).map V.str).length = txQ ((keysP l).map (rowP l)) by
        unfold txQ
        rw [List.length_map, List.map_map]
        exact range_map1 (keysP l) default fun z => is (.str (rowP l z))] at hlc
      refine s_ret (ev_join hlc ?_) fun v H3 e3 hv => ?_
      · have h1 : (((keysP l).map (rowP l)).map (·.length)).sum ≤ (((keysP l).map (rowP l)).map (·.length)).length * 22 := sum_le fun n hn => by
          rw [List.map_map] at hn
          obtain ⟨z, hz, rfl⟩ := List.mem_map.mp hn
          have := row_len hl hz
          show (rowP l z).length ≤ 22
          unfold rowP
          rw [catS_len]
          have s1 : ((" " : Str)).length = 1 := rfl
          have s0 : Str.empty.length = 0 := rfl
          simp only [List.map_cons, List.map_nil, List.sum_cons, List.sum_nil, s1, s0]
          omega
        rw [List.length_map, List.length_map] at h1
        rw [List.length_map]
        have s1 : ((" " : Str)).length = 1 := rfl
        rw [s1]
        omega
      · cases hv
        have := k H3 (e2.trans e3)
        unfold textP at this
        rw [if_neg (of_decide_eq_false hn)] at this
        exact this
end
end K22

set_option Elab.async false
set_option linter.all false
set_option pp.maxSteps 400
set_option maxRecDepth 100000
set_option maxHeartbeats 4000000
/-! P9: pauses read. -/
namespace K22
open PySem PySem.Spec PyProof.Rows L2
def pairsP (l : Pz) : List Str := l.flatMap fun p => [p.1, numS p.2]
def wsP (l : Pz) : List Str := if l = [] then ["-"] else pairsP l
theorem pairsP_len (l : Pz) : (pairsP l).length = 2 * l.length := by
  unfold pairsP
  induction l with
  | nil => rfl
  | cons p l ih =>
    have h2 : (p :: l).length = l.length + 1 := rfl
    rw [List.flatMap_cons, List.length_append, ih, h2]
    have h1 : ([p.1, numS p.2] : List Str).length = 2 := rfl
    rw [h1]
    omega
theorem pairsP_at {l : Pz} : ∀ {i : Nat} {p : Str × Int}, l[i]? = some p → (pairsP l)[2 * i]? = some p.1 ∧ (pairsP l)[2 * i + 1]? = some (numS p.2) := by
  induction l with
  | nil => intro i p h; simp at h
  | cons q l ih =>
    intro i p h
    have e : pairsP (q :: l) = q.1 :: numS q.2 :: pairsP l := rfl
    rw [e]
    cases i with
    | zero =>
      simp at h
      subst h
      exact ⟨rfl, rfl⟩
    | succ i =>
      have := ih (show l[i]? = some p by simpa using h)
      exact this
theorem join_pairs : ∀ (l : Pz), l ≠ [] → Str.join " " (l.map fun p => catS Str.empty [p.1, " ", toString p.2]) = Str.join " " (pairsP l) := by
  intro l hl
  refine TL.ext_tl ?_
  rw [TL.tl_join, TL.tl_join]
  have e0 : TL.tl Str.empty = [] := by decide +kernel
  have row : ∀ p : Str × Int, TL.tl (catS Str.empty [p.1, " ", toString p.2]) = TL.tl p.1 ++ (TL.tl " " ++ TL.tl (numS p.2)) := fun p => by
    unfold catS numS
    simp only [List.foldl_cons, List.foldl_nil, TL.tl_append, e0, List.nil_append, List.append_assoc]
  induction l with
  | nil => exact absurd rfl hl
  | cons p l ih =>
    cases l with
    | nil =>
      show TL.tl (catS Str.empty [p.1, " ", toString p.2]) = TL.tl p.1 ++ (TL.tl " " ++ TL.tl (numS p.2))
      exact row p
    | cons q l =>
      have h := ih (by simp)
      show TL.tl (catS Str.empty [p.1, " ", toString p.2]) ++ (TL.tl " " ++ TL.joinL (TL.tl " ") (((q :: l).map fun p => catS Str.empty [p.1, " ", toString p.2]).map TL.tl)) = TL.tl p.1 ++ (TL.tl " " ++ (TL.tl (numS p.2) ++ (TL.tl " " ++ TL.joinL (TL.tl " ") ((pairsP (q :: l)).map TL.tl))))
      rw [h, row p]
      simp only [List.append_assoc]
theorem text_wsP {l : Pz} (hl : l.Ok) : textP l = Str.join " " (wsP l) := by
  unfold textP wsP
  split
  · rfl
  · rename_i h
    rw [← join_pairs l h]
    congr 1
    unfold keysP
    rw [List.map_map]
    refine List.map_congr_left fun p hp => ?_
    show rowP l p.1 = _
    unfold rowP
    rw [look_mem (strict_nd hl.srt) hp]
theorem wsP_ne (l : Pz) : wsP l ≠ [] := by
  unfold wsP
  split
  · exact List.cons_ne_nil _ _
  · rename_i h
    intro e
    have := pairsP_len l
    rw [e] at this
    exact h (List.length_eq_zero_iff.mp (by have e0 : ([] : List Str).length = 0 := rfl; omega))
theorem wsP_free {l : Pz} (hl : l.Ok) : ∀ z ∈ wsP l, blankFree z = true := by
  unfold wsP
  split
  · intro z hz
    rw [List.mem_singleton.mp hz]
    decide +kernel
  · intro z hz
    obtain ⟨p, hp, hz⟩ := List.mem_flatMap.mp hz
    have b0 := hl.lo p hp
    rcases List.mem_cons.mp hz with rfl | hz
    · exact blank_name (hl.nm _ (List.mem_map_of_mem hp))
    · rw [List.mem_singleton.mp hz]
      exact blank_num (by omega)
theorem joinS_len (ys : List Str) : (Str.join " " ys).length ≤ (ys.map (·.length)).sum + ys.length := by
  induction ys with
  | nil => exact Nat.zero_le _
  | cons y ys ih =>
    cases ys with
    | nil =>
      show y.length ≤ _
      simp
    | cons z ys =>
      show (y ++ " " ++ Str.join " " (z :: ys)).length ≤ _
      rw [str_app_len, str_app_len]
      have s1 : ((" " : Str)).length = 1 := rfl
      rw [s1, List.map_cons, List.sum_cons, List.length_cons]
      omega
theorem textP_len {l : Pz} (hl : l.Ok) : (textP l).length ≤ 5000 := by
  unfold textP
  split
  · decide
  · refine Nat.le_trans (joinS_len _) ?_
    have h1 : (((keysP l).map (rowP l)).map (·.length)).sum ≤ (((keysP l).map (rowP l)).map (·.length)).length * 22 := sum_le fun n hn => by
      rw [List.map_map] at hn
      obtain ⟨z, hz, rfl⟩ := List.mem_map.mp hn
      have := row_len hl hz
      show (rowP l z).length ≤ 22
      unfold rowP
      rw [catS_len]
      have s1 : ((" " : Str)).length = 1 := rfl
      have s0 : Str.empty.length = 0 := rfl
      simp only [List.map_cons, List.map_nil, List.sum_cons, List.sum_nil, s1, s0]
      omega
    rw [List.length_map, List.length_map] at h1
    rw [List.length_map]
    have : (keysP l).length ≤ 60 := by unfold keysP; rw [List.length_map]; exact hl.len
    omega
section
variable {w : World} {K : PySem.W.Frag} {mg : Str → Option Value} {base : Heap}
def spReadP (K : PySem.W.Frag) : Sp := fun vs H Q _ => ∃ l : Pz, vs = [.str (textP l)] ∧ l.Ok ∧ ∀ v H', Same H H' → pauQ K l v H' → Q v H'
theorem sc_Pauses_read : FnScope ["text", "words", "found", "last"] ["text"] (defScope s_Pauses_read) := ⟨rfl, rfl, rfl, by decide +kernel, rfl, by decide +kernel, by decide +kernel⟩
theorem ok_Pauses_read (G : Fc K mg) : Fn R.prog w K mg base 7 (f_Pauses_read K) (spReadP K) := by
  refine fnA G.d_Pauses_read sc_Pauses_read (fun _ _ _ _ _ _ us hl => match us, hl with | [_], _ => rfl) (fun vs H Q h => ?_) (fun vs H Q E h => h) (fun cdv A outer s H vs Q hr h => ?_)
  · obtain ⟨l, rfl, _⟩ := h
    rfl
  · obtain ⟨l, rfl, hl, k⟩ := h
    have nd := sc_Pauses_read.nd
    have hu := hu_of hr
    obtain ⟨tk, hmost⟩ := G.i_MOST_NUMBER
    refine ⟨_, pss_cons (ps_if (pt_not (pt_val (pe_callB call_isi (by rfl) G.b_isinstance (by decide +kernel) (pa_cons (pv 0) (pa_cons (pe_bltn (v := .ty "str") (by rfl) G.b_str (by decide +kernel) rfl) pa_nil))))) pss_never pss_nil) <|
      pss_cons (ps_par3 (i := 1) (j := 2) (l := 3) rfl nd rfl rfl rfl (by decide) (by decide) (by decide) rfl rfl rfl (pa_cons (pe_mk G.m_Words (ok_Words_init G) hr G.g_Words (pa_cons pe_int (pa_cons (pv 0) pa_nil))) (pa_cons pe_dnewK (pa_cons pe_str pa_nil))) (by rfl)) <|
      pss_cons (ps_if (pt_cmpR op_eq (pe_m0 hr (pv 1)) pe_str (nomark _)) (pss_cons (ps_expr (pe_m hr (pv 1) (pa_cons (pe_tup (pa_cons pe_str pa_nil)) pa_nil))) (pss_one (ps_expr (pe_m0 hr (pv 1))))) pss_nil) <|
      pss_cons (ps_while PassesOwn.never (pt_cmpR op_notN (pe_m0 hr (pv 1)) pe_non (nomark _)) (pss_cons (ps_set (i := 3) nd rfl (Or.inl rfl) (pe_m hr (pv 1) (pa_cons (pv 3) pa_nil)))
        (pss_one (ps_dput hu (pv 2) (pv 3) (pe_m hr (pv 1) (pa_cons pe_int (pa_cons (pe_glob (v := .int 1000000000000) (by rfl) hmost ⟨_, rfl⟩) pa_nil))) rfl)))) <|
      pss_one (ps_ret (pe_kw G.m_Pauses (ok_Pauses_init G) hr G.g_Pauses (pv 2))), ?_⟩
    refine s_skip (et_not (b := true) (et_B (ev_cb (ea_cons (ev_v rfl) (ea_cons ev_k ea_nil)) cp_isiStr))) fun H1 e1 => ?_
    refine ⟨_, rfl, fun x dx hx hdx hne => ?_⟩
    have hx0 : H x = none := by
      cases q : H x with
      | none => rfl
      | some o => rw [e1 _ _ q] at hx; cases hx
    have tl := textP_len hl
    rw [text_wsP hl] at tl
    refine ⟨x, dx, wsP l, by rw [text_wsP hl], upd_same, wsP_ne l, wsP_free hl, Nat.le_trans tl (by decide), fun H2 e2 hw => ⟨rfl, ?_⟩⟩
    have s2 : Same H H2 := e1.trans (e2.new hx hdx)
    intro f hf
    have hf0 : H f = none := by
      cases q : H f with
      | none => rfl
      | some o => rw [s2 _ _ q] at hf; cases hf
    refine ⟨_, _, _, rfl, ?_⟩
    have s3 : Same H (upd H2 f (.dK [])) := s2.trans (same_new hf)
    have hw3 : WAt K (upd H2 f (.dK [])) x (wsP l) 0 := hw.mono (same_new hf)
    have hf3 : upd H2 f (.dK []) f = some (.dK []) := upd_same
    generalize upd H2 f (.dK []) = H3 at s3 hw3 hf3
    have nxt : ∀ (last : Str) (H' : Hp) (q : Nat), WAt K H' x (wsP l) q → EvP (tM (cxOf CX0 R.prog w K mg base ["text", "words", "found", "last"] "Pauses.read" (defScope s_Pauses_read) (f_Pauses_read K) cdv A outer s H E0).nox 6 "next_word" (tVar 1) tNil) [some (.str (textP l)), some (.ref x), some (.ref f), some (.str last)] H' (is (match (wsP l)[q]? with | some z => .str z | none => .non)) := fun last H' q h => ev_m (ev_v rfl) ea_nil (mp_next (P := R.prog) G ⟨rfl, rfl, rfl⟩ h)
    -- the words behind the head
    have main : ∀ (H4 : Hp) (q : Nat), Same H H4 → WAt K H4 x (wsP l) q → q + 2 * l.length = (wsP l).length → H4 f = some (.dK []) →
        tSeq (tWhile (tTest (tOp (fun x y H Q => y = .non ∧ Q (.bl (!decide (x = .non))) H) (tM (cxOf CX0 R.prog w K mg base ["text", "words", "found", "last"] "Pauses.read" (defScope s_Pauses_read) (f_Pauses_read K) cdv A outer s H E0).nox 6 "next_word" (tVar 1) tNil) (tC .non))) (tSeq (tAsg (tM (cxOf CX0 R.prog w K mg base ["text", "words", "found", "last"] "Pauses.read" (defScope s_Pauses_read) (f_Pauses_read K) cdv A outer s H E0).nox 6 "take_name" (tVar 1) (tCons (tVar 3) tNil)) (gName 3)) (sDPut (tVar 2) (tVar 3) (tM (cxOf CX0 R.prog w K mg base ["text", "words", "found", "last"] "Pauses.read" (defScope s_Pauses_read) (f_Pauses_read K) cdv A outer s H E0).nox 6 "take_number" (tVar 1) (tCons (tC (.int 1)) (tCons (tC (.int 1000000000000)) tNil))))))
          (tRet (tKw (cPauses K) (spPauI K) (tVar 2))) { nx := fun _ H' => Q .non H', rt := Q } [some (.str (textP l)), some (.ref x), some (.ref f), some (.str "")] H4 := by
      intro H4 q s4 hw4 hq hf4
      refine ⟨fun m σ H' => ∃ (i : Nat) (last : Str) (q : Nat), m = l.length - i ∧ i ≤ l.length ∧ σ = [some (.str (textP l)), some (.ref x), some (.ref f), some (.str last)] ∧ Same H H' ∧ WAt K H' x (wsP l) q ∧ q + 2 * (l.length - i) = (wsP l).length ∧ H' f = some (.dK (inrs (pzV (l.take i)))) ∧ (∀ p, l[i]? = some p → sLt last p.1 = true), ⟨_, 0, "", q, rfl, Nat.zero_le _, rfl, s4, hw4, hq, hf4, fun p hp => lt_empty (hl.nm _ (List.mem_map_of_mem (List.mem_of_getElem? hp)))⟩, ?_⟩
      rintro m σ H5 ⟨i, last, q, rfl, hi, rfl, s5, hw5, hq5, hf5, hlast⟩
      have t := ev_op (nxt last H5 q hw5) (ev_k (v := .non)) rp_notN
      refine et_test t H5 (Same.refl _) _ fun H6 e6 => ?_
      have hw6 := hw5.mono e6
      have hf6 := e6 _ _ hf5
      have s6 := s5.trans e6
      by_cases hlt : i < l.length
      · obtain ⟨p, hp⟩ : ∃ p, l[i]? = some p := ⟨l[i], List.getElem?_eq_getElem hlt⟩
        have hne : l ≠ [] := by rintro rfl; simp at hlt
        have hws : wsP l = pairsP l := if_neg hne
        have hlen := pairsP_len l
        have hq2 : q = 2 * i := by rw [hws, hlen] at hq5; omega
        obtain ⟨a1, a2⟩ := pairsP_at hp
        rw [← hws, ← hq2] at a1 a2
        have hpm := List.mem_of_getElem? hp
        have b0 := hl.lo p hpm
        have b1 := hl.hi p hpm
        have e : (!decide ((match (wsP l)[q]? with | some z => V.str z | none => V.non) = V.non)) = true := by
          rw [a1]; rfl
        rw [e, if_pos rfl]
        refine ⟨fun σ' H' => ∃ (last' : Str) (q' : Nat), σ' = [some (.str (textP l)), some (.ref x), some (.ref f), some (.str last')] ∧ Same H H' ∧ WAt K H' x (wsP l) q' ∧ q' + 2 * (l.length - (i + 1)) = (wsP l).length ∧ H' f = some (.dK (inrs (pzV (l.take (i + 1))))) ∧ (∀ p, l[i + 1]? = some p → sLt last' p.1 = true), fun σ' H' ⟨last', q', h1, h2, h3, h4, h5, h6⟩ => ⟨l.length - (i + 1), by omega, i + 1, last', q', rfl, hlt, h1, h2, h3, h4, h5, h6⟩, ?_⟩
        obtain ⟨dx6, lw, nlx, hx6, hlw6⟩ := id hw6
        have nfx : f ≠ x := by rintro rfl; rw [hf6] at hx6; cases hx6
        refine r_mcall (X := (cxOf CX0 R.prog w K mg base ["text", "words", "found", "last"] "Pauses.read" (defScope s_Pauses_read) (f_Pauses_read K) cdv A outer s H E0).nox) (As := [is (.str last)]) (n := 6) (ev_v (i := 1) rfl) hx6 G.c_Words G.h_Words_take_name (by rfl) (ok_Words_take_name2 G) (by decide) (ea_cons (ev_v (i := 3) rfl) ea_nil) fun H7 e7 vs hvs => ?_
        have ev := all2_is (xs := [.str last]) hvs
        subst ev
        refine ⟨x, wsP l, q, p.1, last, rfl, hw6.mono e7, a1, hl.nm _ (List.mem_map_of_mem hpm), hlast p hp, fun H8 k8 hw8 => ?_⟩
        have s8 : Same H H8 := KeepX.same_of (s6.trans e7) hx0 k8
        have hf8 : H8 f = some (.dK (inrs (pzV (l.take i)))) := k8 _ _ nfx (e7 _ _ hf6)
        obtain ⟨dx8, lw8, nlx8, hx8, hlw8⟩ := id hw8
        refine r_mcall (X := (cxOf CX0 R.prog w K mg base ["text", "words", "found", "last"] "Pauses.read" (defScope s_Pauses_read) (f_Pauses_read K) cdv A outer s H E0).nox) (As := [is (.int 1), is (.int 1000000000000)]) (n := 6) (ev_v (i := 1) rfl) hx8 G.c_Words G.h_Words_take_number (by rfl) (ok_Words_take_number G) (by decide) (ea_cons ev_k (ea_cons ev_k ea_nil)) fun H9 e9 vs hvs => ?_
        have ev := all2_is (xs := [.int 1, .int 1000000000000]) hvs
        subst ev
        refine ⟨x, wsP l, q + 1, p.2, 1, 1000000000000, rfl, hw8.mono e9, a2, by omega, b1, b0, b1, fun H10 k10 hw10 => ?_⟩
        have s10 : Same H H10 := KeepX.same_of (s8.trans e9) hx0 k10
        have hf10 : H10 f = some (.dK (inrs (pzV (l.take i)))) := k10 _ _ nfx (e9 _ _ hf8)
        have hfr : valV (inrs (pzV (l.take i))) (Sum.inr p.1 : Key) = none := pzV_none fun hm => by
          obtain ⟨j, hj⟩ := List.getElem?_of_mem hm
          unfold keysP at hj
          rw [List.map_take] at hj
          have hji : j < i := by
            have := (List.getElem?_eq_some_iff.mp hj).1
            rw [List.length_take] at this
            omega
          rw [List.getElem?_take_of_lt hji] at hj
          have hi2 : (l.map (·.1))[i]? = some p.1 := by rw [List.getElem?_map, hp]; rfl
          exact absurd (nodup_ix (strict_nd hl.srt) hj hi2) (by omega)
        refine ⟨_, rfl, _, rfl, f, _, rfl, DPut.k (k := Sum.inr p.1) hf10 ?_, p.1, q + 2, rfl, same_mut s10 hf0, ?_, by omega, ?_, fun p2 hp2 => ?_⟩
        · unfold inrs
          rw [List.length_map, pzV_len, List.length_take]
          have := hl.len
          exact small1000 (by omega)
        · obtain ⟨dx10, lw10, nlx10, hx10, hlw10⟩ := id hw10
          exact ⟨dx10, lw10, nlx10, by rw [upd_ne nfx.symm]; exact hx10, by rw [upd_ne (by rintro rfl; rw [hf10] at hlw10; cases hlw10)]; exact hlw10⟩
        · rw [upd_same, putK_new _ hfr, List.take_succ, hp]
          unfold inrs pzV
          rw [List.map_append, List.map_append]
          rfl
        · have h1 : (keysP l)[i]? = some p.1 := by unfold keysP; rw [List.getElem?_map, hp]; rfl
          have h2 : (keysP l)[i + 1]? = some p2.1 := by unfold keysP; rw [List.getElem?_map, hp2]; rfl
          obtain ⟨c1, c2⟩ := List.getElem?_eq_some_iff.mp h1
          obtain ⟨c3, c4⟩ := List.getElem?_eq_some_iff.mp h2
          have := List.pairwise_iff_getElem.mp hl.srt i (i + 1) c1 c3 (by omega)
          rw [c2, c4] at this
          exact this
      · have hil : i = l.length := by omega
        subst hil
        have hq2 : (wsP l)[q]? = none := List.getElem?_eq_none (by omega)
        have e : (!decide ((match (wsP l)[q]? with | some z => V.str z | none => V.non) = V.non)) = false := by
          rw [hq2]; rfl
        rw [e]
        rw [List.take_length] at hf6
        refine s_ret (ev_kw (ev_v (i := 2) rfl) hf6 hl.raw) fun v H7 e7 hv => k v H7 (s6.trans e7) ?_
        rw [norm_self hl] at hv
        exact hv
    have t0 := ev_op (nxt "" H3 0 hw3) (ev_k (v := .str "-")) (rp_eq (by cases (wsP l)[0]? <;> rfl))
    by_cases hn : l = []
    · have hws : wsP l = [("-" : Str)] := if_pos hn
      have e0 : (wsP l)[0]? = some ("-" : Str) := by rw [hws]; rfl
      refine s_if (et_test t0) (fun _ H4 e4 => ?_) (fun h => ?_)
      · have hw4 := hw3.mono e4
        obtain ⟨dx4, lw, nlx, hx4, hlw4⟩ := id hw4
        have hf4 := e4 _ _ hf3
        have nfx : f ≠ x := by rintro rfl; rw [hf4] at hx4; cases hx4
        refine r_mcall (X := (cxOf CX0 R.prog w K mg base ["text", "words", "found", "last"] "Pauses.read" (defScope s_Pauses_read) (f_Pauses_read K) cdv A outer s H E0).nox) (As := [tupQ [is (.str "-")]]) (n := 6) (ev_v (i := 1) rfl) hx4 G.c_Words G.h_Words_take_word (by rfl) (ok_Words_take_word G) (by decide) (ea_cons (ev_tup (ea_cons ev_k ea_nil)) ea_nil) fun H5 e5 vs hvs => ?_
        obtain ⟨_, _, rfl, ⟨c, us, rfl, hc, hu⟩, h2⟩ := all2_cons hvs
        cases h2
        have ev := all2_is (xs := [.str "-"]) hu
        subst ev
        refine ⟨x, c, wsP l, ["-"], 0, "-", rfl, hw4.mono e5, hc, e0, .head _, fun H6 k6 hw6 => ?_⟩
        have s6 : Same H H6 := KeepX.same_of ((s3.trans e4).trans e5) hx0 k6
        have hf6 : H6 f = some (.dK []) := k6 _ _ nfx (e5 _ _ hf4)
        obtain ⟨dx6, lw6, nlx6, hx6, hlw6⟩ := id hw6
        refine r_mcall (X := (cxOf CX0 R.prog w K mg base ["text", "words", "found", "last"] "Pauses.read" (defScope s_Pauses_read) (f_Pauses_read K) cdv A outer s H E0).nox) (As := []) (n := 6) (ev_v (i := 1) rfl) hx6 G.c_Words G.h_Words_take_end (by rfl) (ok_Words_take_end G) (by decide) ea_nil fun H7 e7 vs hvs => ?_
        cases hvs
        have hl1 : (wsP l).length = 1 := by rw [hws]; rfl
        have hw7 : WAt K H7 x (wsP l) 1 := hw6.mono e7
        refine ⟨x, wsP l, rfl, by rw [hl1]; exact hw7, fun H8 e8 => ?_⟩
        exact main H8 1 ((s6.trans e7).trans e8) (hw7.mono e8) (by rw [hl1, hn]; rfl) (e8 _ _ (e7 _ _ hf6))
      · rw [e0] at h
        exact absurd h (by simp)
    · obtain ⟨p, r, rfl⟩ := List.exists_cons_of_ne_nil hn
      have hws : wsP (p :: r) = pairsP (p :: r) := if_neg hn
      have e0 : (wsP (p :: r))[0]? = some p.1 := by rw [hws]; rfl
      have hz := hl.nm p.1 (.head _)
      have hnd : ¬ (V.str p.1 = V.str "-") := fun h => by
        injection h with h
        rw [h] at hz
        exact absurd hz (by decide +kernel)
      refine s_if (et_test t0) (fun h => ?_) (fun _ H4 e4 => ?_)
      · rw [e0] at h
        exact absurd (of_decide_eq_true h) hnd
      · exact main H4 0 (s3.trans e4) (hw3.mono e4) (by rw [hws, pairsP_len]; omega) (e4 _ _ hf3)
end
end K22

set_option Elab.async false
set_option linter.all false
set_option pp.maxSteps 400
set_option maxRecDepth 100000
set_option maxHeartbeats 4000000
/-! R14: xs != []. -/
namespace K22
open PySem PySem.Spec PyProof.Rows L2
theorem op_neNil {X : Cx} (hu : X.A.units < cLine) : OpR X (compareOp .NotEq) (fun x y H Q => ∃ p q, ∃ xs : List V, x = .ref p ∧ y = .ref q ∧ SqL X.K H p xs ∧ SqL X.K H q [] ∧ Q (.bl (!xs.isEmpty)) H) := by
  intro pins s σ H x y v u Q I rx ry hq
  obtain ⟨p, q, xs, rfl, rfl, h1, h2, k⟩ := hq
  cases rx
  cases ry
  show wpAny _ _ (richCompare .NotEq (.ref p) (.ref q)) _ _ s
  obtain ⟨i1, r1, l1, _⟩ := I.list h1
  obtain ⟨i2, r2, l2, _⟩ := I.list h2
  cases r2
  have hl := r1.length
  by_cases he : xs = []
  · subst he
    cases r1
    exact SeqAt.RcNeAt.lists (e := fun _ => true) l1.isList l2.isList rfl hu (fun j h1 h2 => absurd h1 (by simp)) X.prog X.w _ _ ⟨.bl false, H, I, rfl, k⟩
  · have hn : i1 ≠ [] := by rintro rfl; exact he (List.length_eq_zero_iff.mp hl)
    refine SeqAt.RcNeAt.lists_lengths l1.isList l2.isList (by simp [hn]) hu X.prog X.w _ _ ⟨.bl (!xs.isEmpty), H, I, ?_, k⟩
    have : xs.isEmpty = false := by cases xs with | nil => exact absurd rfl he | cons _ _ => rfl
    rw [this]
    rfl
end K22

set_option Elab.async false
set_option linter.all false
set_option pp.maxSteps 400
set_option maxRecDepth 100000
set_option maxHeartbeats 4000000
/-! G1: the law: the pen, a draw. -/
namespace K22
open PySem PySem.Spec PyProof.Rows L2
/-- the pen -/
def penAt (N : Nat) (p c : Addr) (H : Hp) : Prop := ∃ (ns : List Int) (turn rest : Int), c ≠ p ∧ H p = some (.lst [.ref c, .int turn, .int rest]) ∧ H c = some (.lst (ns.map V.int)) ∧ ns.length ≤ 63 ∧ 0 ≤ turn ∧ turn ≤ N ∧ 0 ≤ rest
theorem penAt.mono {N M : Nat} {p c : Addr} {H H' : Hp} (h : penAt N p c H) (e : Same H H') (hm : N ≤ M) : penAt M p c H' := by
  obtain ⟨ns, t, r, h1, h2, h3, h4, h5, h6, h7⟩ := h
  exact ⟨ns, t, r, h1, e _ _ h2, e _ _ h3, h4, h5, by omega, h7⟩
section
variable {w : World} {K : PySem.W.Frag} {mg : Str → Option Value} {base : Heap}
def spDraw (d : Nat) : Sp := fun vs H Q _ => ∃ (p c : Addr) (m : Int) (N : Nat), vs = [.ref p, .int m] ∧ penAt N p c H ∧ N ≤ 1000000 ∧ 1 ≤ m ∧ m < 2 ^ 62 ∧ ∀ i H', KeepX p H H' → penAt (N + 1) p c H' → 0 ≤ i → i < m → Q (.int i) H'
theorem sc_law_draw : FnScope ["_law_pen_here", "_law_many", "_law_digit", "_law_turn", "_law_cell", "_law_great", "_law_mixed_here"] ["_law_pen_here", "_law_many"] (defScope s_law_draw) := ⟨rfl, rfl, rfl, by decide +kernel, rfl, by decide +kernel, by decide +kernel⟩
theorem cp_abs {i : Int} {H : Hp} : CP (fun xs H Q => ∃ i, xs = [.int i] ∧ Q (.int (if i < 0 then -i else i)) H) [is (.int i)] H (is (.int (if i < 0 then -i else i))) := fun H1 e vs hv Q k => by
  have ev := all2_is (xs := [.int i]) hv
  subst ev
  exact ⟨i, rfl, k _ H1 (Same.refl H1) rfl⟩
theorem s_store {σ : L2.St} {H : Hp} {te : TE} {i : Nat} {p : Addr} {xs : List V} {k : Int} {j : Nat} {v : V} {u : TS} {D : Ends} (he : EvP te σ H (is v)) (hp : σ[i]? = some (some (.ref p))) (hl : H p = some (.lst xs)) (hj : ixN xs.length k = some j) (kk : ∀ H2, Same H H2 → u D σ (upd H2 p (.lst (xs.set j v)))) :
    tSeq (tAsg te (gSub (tVar i) (tC (.int k)) rSetL)) u D σ H := he H (Same.refl H) _ fun y H2 e2 hy => by
  cases hy
  exact ⟨_, hp, p, xs, k, j, rfl, rfl, e2 _ _ hl, hj, kk H2 e2⟩
theorem s_store2 {σ : L2.St} {H : Hp} {te : TE} {i : Nat} {p : Addr} {xs ys : List V} {k : Int} {j : Nat} {v : V} {u : TS} {D : Ends} (he : EvP te σ H (is v)) (hp : σ[i]? = some (some (.ref p))) (hl : H p = some (.lst xs)) (hj : ixN xs.length k = some j) (hy : xs.set j v = ys) (kk : ∀ H', KeepX p H H' → H' p = some (.lst ys) → u D σ H') :
    tSeq (tAsg te (gSub (tVar i) (tC (.int k)) rSetL)) u D σ H := s_store he hp hl hj fun H2 e2 => kk _ (KeepX.put (Same.keepX e2)) (by rw [← hy]; exact upd_same)
theorem s_ifSet {σ : L2.St} {H : Hp} {tt : TT} {te : TE} {i : Nat} {b : Bool} {u : TS} {D : Ends} (h : EtP tt σ H b) (he : b = true → EvP te σ H fun v _ => ∃ n : Int, v = .int n) (h0 : ∃ n : Int, σ.set i (some (.int n)) = σ) (k : ∀ (n : Int) H2, Same H H2 → u D (σ.set i (some (.int n))) H2) :
    tSeq (tIfS tt (tAsg te (gName i)) tNext) u D σ H := by
  refine s_if h (fun hb H2 e2 => ?_) (fun hb H2 e2 => ?_)
  · refine he hb H2 e2 _ fun v H3 e3 hv => ?_
    obtain ⟨n, rfl⟩ := hv
    exact k n H3 (e2.trans e3)
  · obtain ⟨n, hn⟩ := h0
    have := k n H2 e2
    rw [hn] at this
    exact this
theorem rp_neNil {c : Addr} {xs : List V} {H : Hp} (hc : H c = some (.lst xs)) : RP (fun x y H Q => ∃ p q, ∃ xs : List V, x = .ref p ∧ y = .ref q ∧ SqL K H p xs ∧ SqL K H q [] ∧ Q (.bl (!xs.isEmpty)) H) (is (.ref c)) (lstQ []) H (is (.bl (!xs.isEmpty))) := fun H1 e x y hx ⟨q, vs, hy, hq, hvs⟩ Q k => by
  cases hx
  cases hvs
  exact ⟨c, q, xs, rfl, hy, SqL.of (e _ _ hc), SqL.of hq, k _ H1 (Same.refl H1) rfl⟩
theorem ok_law_draw (G : Fc K mg) : Fn R.prog w K mg base 1 (f_law_draw K) (spDraw 0) := by
  refine fnA G.d_law_draw sc_law_draw (fun _ _ _ _ _ _ us hl => match us, hl with | [_, _], _ => rfl) (fun vs H Q h => ?_) (fun vs H Q E h => h) (fun cdv A outer s H vs Q hr h => ?_)
  · obtain ⟨p, c, m, N, rfl, _⟩ := h
    rfl
  · obtain ⟨p, c, m, N, rfl, ⟨ns, turn, rest, hcp, hp, hc, hns, ht0, ht1, hr0⟩, hN, hm1, hm2, k⟩ := h
    have nd := sc_law_draw.nd
    have hu64 : (A.deeper (envOfC "_law_draw" (defScope s_law_draw) s.heap.objs.size (f_law_draw K) cdv)).units < cLine := Nat.lt_of_le_of_lt (Nat.le_add_right _ 64) hr.units
    refine ⟨_, pss_cons (ps_if (pt_cmpR op_gt (pe_ix ix_list (pv 0) pe_int (fun _ _ => rfl)) pe_int (nomark _))
        (pss_cons (ps_set (i := 2) nd rfl (Or.inl rfl) (pe_op op_mod (pe_callTy call_int1 (by rfl) G.b_int (by decide +kernel) (pa_cons (pe_ix ix_list (pv 0) pe_int (fun _ _ => rfl)) pa_nil)) (pv 1))) <|
         pss_cons (ps_asg (pe_op op_fdivW (pe_callTy call_int1 (by rfl) G.b_int (by decide +kernel) (pa_cons (pe_ix ix_list (pv 0) pe_int (fun _ _ => rfl)) pa_nil)) (pv 1)) (pg_sub (pv 0) pe_int set_list)) <|
         pss_one (ps_ret (pv 2))) pss_nil) <|
      pss_cons (ps_set (i := 3) nd rfl (Or.inl rfl) (pe_ix ix_list (pv 0) pe_int (fun _ _ => rfl))) <|
      pss_cons (ps_asg (pe_op op_add (pv 3) pe_int) (pg_sub (pv 0) pe_int set_list)) <|
      pss_cons (ps_set (i := 4) nd rfl (Or.inl rfl) (pe_op op_add (pe_op op_mul pe_int (pv 3)) pe_int)) <|
      pss_cons (ps_if (pt_cmpR (op_neNil hu64) (pe_ix ix_list (pv 0) pe_int (fun _ _ => rfl)) (pe_lst pa_nil) (nomark _))
        (pss_one (ps_set (i := 4) nd rfl (Or.inl rfl) (pe_ix ix_list (pe_ix ix_list (pv 0) pe_int (fun _ _ => rfl)) (pe_op op_mod (pe_callTy call_int1 (by rfl) G.b_int (by decide +kernel) (pa_cons (pv 3) pa_nil)) (pe_callB call_len_seq (by rfl) G.b_len PySem.boot_len (pa_cons (pe_ix ix_list (pv 0) pe_int (fun _ _ => rfl)) pa_nil))) (fun _ _ => rfl)))) pss_nil) <|
      pss_cons (ps_if (PW.pt (pw_and (pt_cmpR op_lt (pv 3) (pe_callB call_len_seq (by rfl) G.b_len PySem.boot_len (pa_cons (pe_ix ix_list (pv 0) pe_int (fun _ _ => rfl)) pa_nil)) (nomark _))
          (pw_and1 (pt_cmpR op_ge (pe_callB call_abs (by rfl) G.b_abs (by decide +kernel) (pa_cons (pv 4) pa_nil)) (pe_op op_pow pe_int pe_int) (nomark _)))))
        (pss_cons (ps_set (i := 5) nd rfl (Or.inl rfl) (pe_op op_add (pe_op op_mul pe_int (pe_op op_sub (pe_callB call_abs (by rfl) G.b_abs (by decide +kernel) (pa_cons (pv 4) pa_nil)) (pe_op op_pow pe_int pe_int))) (pe_callTy call_int1 (by rfl) G.b_int (by decide +kernel) (pa_cons (pe_cmpR op_lt (pv 4) pe_int (nomark _)) pa_nil)))) <|
         pss_cons (ps_asg (pe_op op_fdivW (pe_callTy call_int1 (by rfl) G.b_int (by decide +kernel) (pa_cons (pv 5) pa_nil)) (pv 1)) (pg_sub (pv 0) pe_int set_list)) <|
         pss_one (ps_ret (pe_op op_mod (pe_callTy call_int1 (by rfl) G.b_int (by decide +kernel) (pa_cons (pv 5) pa_nil)) (pv 1)))) pss_nil) <|
      pss_cons (ps_set (i := 6) nd rfl (Or.inl rfl) (pe_op op_mod (pe_callTy call_int1 (by rfl) G.b_int (by decide +kernel) (pa_cons (pe_op op_pow (pe_op op_add (pe_op op_add (pe_op op_mod (pe_callTy call_int1 (by rfl) G.b_int (by decide +kernel) (pa_cons (pv 4) pa_nil)) pe_int) (pe_op op_mul pe_int (pv 3))) pe_int) pe_int) pa_nil)) pe_int)) <|
      pss_cons (ps_set (i := 6) nd rfl (Or.inl rfl) (pe_op op_mod (pe_callTy call_int1 (by rfl) G.b_int (by decide +kernel) (pa_cons (pe_op op_pow (pe_op op_add (pe_op op_add (pe_op op_mul (pv 6) (pe_op op_add (pe_op op_mul pe_int (pv 3)) pe_int)) (pe_op op_mul (pe_op op_mul pe_int (pv 3)) (pv 3))) pe_int) pe_int) pa_nil)) pe_int)) <|
      pss_one (ps_ret (pe_op op_mod (pe_callTy call_int1 (by rfl) G.b_int (by decide +kernel) (pa_cons (pe_op op_fdiv (pv 6) pe_int) pa_nil)) (pv 1))), ?_⟩
    have hdw : ∀ i : Int, CDivW i m := fun i => wide_div (b := 62) (by omega) (by omega) (by decide) (by decide)
    have ix : ∀ (σ : L2.St) (H' : Hp) (xs : List V) (i : Int) (v : V), σ[0]? = some (some (.ref p)) → H' p = some (.lst xs) → atI xs i = some v → EvP (tOp (rIxL K) (tVar 0) (tC (.int i))) σ H' (is v) := fun σ H' xs i v h0 h1 h2 => ev_op (ev_v h0) ev_k (rp_ixL h1 h2)
    have t1 := ev_op (ix (start ["_law_pen_here", "_law_many", "_law_digit", "_law_turn", "_law_cell", "_law_great", "_law_mixed_here"] [.ref p, .int m]) H _ 2 (.int rest) rfl hp rfl) (ev_k (v := .int 0)) (rp_I0 (g := fun i j => .bl (decide (j < i))))
    refine s_if (et_test t1) (fun _ H1 e1 => ?_) (fun hn H1 e1 => ?_)
    · have hp1 := e1 _ _ hp
      refine s_set (ev_op (ev_cb (ea_cons (ix _ H1 _ 2 (.int rest) rfl hp1 rfl) ea_nil) cp_int) (ev_v (i := 1) (v := .int m) rfl) (rp_I (g := fun i j => .int (i % j)) (by omega))) fun v H2 e2 hv => ?_
      cases hv
      have hp2 := e2 _ _ hp1
      refine s_store (ev_op (ev_cb (ea_cons (ix _ H2 _ 2 (.int rest) rfl hp2 rfl) ea_nil) cp_int) (ev_v (i := 1) (v := .int m) rfl) (rp_I (g := fun i j => .int (i / j)) (hdw _))) rfl hp2 (j := 2) rfl fun H3 e3 => ?_
      have kx : KeepX p H (upd H3 p (.lst [.ref c, .int turn, .int (rest / m)])) := KeepX.put (Same.keepX ((e1.trans e2).trans e3))
      refine s_ret (ev_v (i := 2) rfl) fun v H4 e4 hv => ?_
      cases hv
      refine k _ H4 (kx.same e4) ⟨ns, turn, rest / m, hcp, e4 _ _ upd_same, e4 _ _ (kx _ _ hcp hc), hns, ht0, by omega, Int.ediv_nonneg hr0 (by omega)⟩ (Int.emod_nonneg _ (by omega)) (Int.emod_lt_of_pos _ (by omega))
    · have hp1 := e1 _ _ hp
      refine s_set (ix _ H1 _ 1 (.int turn) rfl hp1 rfl) fun v H2 e2 hv => ?_
      cases hv
      have hp2 := e2 _ _ hp1
      refine s_store2 (ev_op (ev_v (i := 3) rfl) (ev_k (v := .int 1)) (rp_I0 (g := fun i j => .int (i + j)))) rfl hp2 (j := 1) rfl (ys := [.ref c, .int (turn + 1), .int rest]) rfl fun H4 k4 hp3 => ?_
      have kx : KeepX p H H4 := KeepX.trans (Same.keepX (e1.trans e2)) k4
      have hc3 := kx _ _ hcp hc
      have ct : ∀ i : Int, CMul i turn := fun i => .inr ⟨by omega, by omega⟩
      refine s_set (ev_op (ev_op (ev_k (v := .int 47771)) (ev_v (i := 3) (v := .int turn) rfl) (rp_I (g := fun i j => .int (i * j)) (ct _))) (ev_k (v := .int 2449)) (rp_I0 (g := fun i j => .int (i + j)))) fun v H5 e5 hv => ?_
      cases hv
      have hp5 := e5 _ _ hp3
      have hc5 := e5 _ _ hc3
      have t2 := ev_op (ix [some (.ref p), some (.int m), none, some (.int turn), some (.int (47771 * turn + 2449)), none, none] H5 _ 0 (.ref c) rfl hp5 rfl) (ev_lst ea_nil) (rp_neNil (K := K) hc5)
      refine s_ifSet (et_test t2) (fun hne => ?_) ⟨_, rfl⟩ fun cell H6 e6 => ?_
      · have hlen : 0 < ns.length := by
          rcases Nat.eq_zero_or_pos ns.length with q | q
          · rw [List.length_eq_zero_iff.mp q] at hne; cases hne
          · exact q
        have b0 := Int.emod_nonneg turn (b := (ns.length : Int)) (by omega)
        have b1 := Int.emod_lt_of_pos turn (b := (ns.length : Int)) (by omega)
        obtain ⟨j, hj⟩ := Int.eq_ofNat_of_zero_le b0
        have hjl : j < ns.length := by omega
        have hat : atI (ns.map V.int) (turn % ((ns.map V.int).length : Nat)) = some (.int ns[j]) := by
          rw [List.length_map, hj]
          exact atI_nat (by rw [List.getElem?_map, List.getElem?_eq_getElem hjl]; rfl)
        have hi := ev_op (ev_cb (ea_cons (ev_v (i := 3) (σ := [some (.ref p), some (.int m), none, some (.int turn), some (.int (47771 * turn + 2449)), none, none]) (H := H5) (v := .int turn) rfl) ea_nil) cp_int) (ev_cb (ea_cons (ix _ H5 _ 0 (.ref c) rfl hp5 rfl) ea_nil) (cp_len (K := K) hc5)) (rp_I (g := fun i j => .int (i % j)) (D := fun _ j => 0 < j) (by rw [List.length_map]; omega))
        have := ev_op (ix _ H5 _ 0 (.ref c) rfl hp5 rfl) hi (rp_ixL (K := K) hc5 hat)
        exact fun H' e Q kk => this H' e Q fun v H2 e2 hv => kk v H2 e2 ⟨_, hv⟩
      · have hp6 := e6 _ _ hp5
        have hc6 := e6 _ _ hc5
        have kx6 : KeepX p H H6 := (kx.same e5).same e6
        have p18 : ((10 : Int) ^ (18 : Int).toNat) = 1000000000000000000 := by decide
        have pw : ∀ (σ : L2.St) (H' : Hp), EvP (tOp (rI CPow fun i j => .int (i ^ j.toNat)) (tC (.int 10)) (tC (.int 18))) σ H' (is (.int 1000000000000000000)) := fun σ H' => by
          have := ev_op (σ := σ) (H := H') (ev_k (v := .int 10)) (ev_k (v := .int 18)) (rp_I (D := CPow) (g := fun i j => .int (i ^ j.toNat)) ⟨by decide, by decide, by decide⟩)
          rw [p18] at this
          exact this
        have ab : ∀ (σ : L2.St) (H' : Hp), σ[4]? = some (some (.int cell)) → EvP (tCB (fun xs H Q => ∃ i, xs = [.int i] ∧ Q (.int (if i < 0 then -i else i)) H) (tCons (tVar 4) tNil)) σ H' (is (.int (if cell < 0 then -cell else cell))) := fun σ H' h => ev_cb (ea_cons (ev_v h) ea_nil) cp_abs
        generalize hac : (if cell < 0 then -cell else cell) = ac at ab
        have c1 := ev_op (ev_v (i := 3) (σ := [some (.ref p), some (.int m), none, some (.int turn), some (.int cell), none, none]) (H := H6) (v := .int turn) rfl) (ev_cb (ea_cons (ix _ H6 _ 0 (.ref c) rfl hp6 rfl) ea_nil) (cp_len (K := K) hc6)) (rp_I0 (g := fun i j => .bl (decide (i < j))))
        have c2 := ev_op (ab [some (.ref p), some (.int m), none, some (.int turn), some (.int cell), none, none] H6 rfl) (pw _ H6) (rp_I0 (g := fun i j => .bl (decide (j ≤ i))))
        refine s_if (et_and (et_test c1) fun _ => et_test c2) (fun hb H7 e7 => ?_) (fun _ H7 e7 => ?_)
        · rw [Bool.and_eq_true] at hb
          have hge := of_decide_eq_true hb.2
          have hp7 := e7 _ _ hp6
          refine s_set (ev_op (ev_op (ev_k (v := .int 2)) (ev_op (ab _ H7 rfl) (pw _ H7) (rp_I0 (g := fun i j => .int (i - j)))) (rp_I (g := fun i j => .int (i * j)) (D := CMul) (.inl ⟨by decide, by decide⟩))) (ev_cb (ea_cons (ev_op (ev_v (i := 4) (v := .int cell) rfl) (ev_k (v := .int 0)) (rp_I0 (g := fun i j => .bl (decide (i < j))))) ea_nil) cp_intB) (rp_I0 (g := fun i j => .int (i + j)))) fun v H8 e8 hv => ?_
          cases hv
          have hg : 0 ≤ 2 * (ac - 1000000000000000000) + (if decide (cell < 0) = true then (1 : Int) else 0) := by
            have : (0 : Int) ≤ (if decide (cell < 0) = true then (1 : Int) else 0) := by split <;> decide
            omega
          generalize 2 * (ac - 1000000000000000000) + (if decide (cell < 0) = true then (1 : Int) else 0) = great at hg
          have hp8 := e8 _ _ hp7
          refine s_store2 (ev_op (ev_cb (ea_cons (ev_v (i := 5) rfl) ea_nil) cp_int) (ev_v (i := 1) (v := .int m) rfl) (rp_I (g := fun i j => .int (i / j)) (hdw great))) rfl hp8 (j := 2) rfl (ys := [.ref c, .int (turn + 1), .int (great / m)]) rfl fun H9 k9 hp9 => ?_
          have kx9 : KeepX p H H9 := KeepX.trans ((kx6.same e7).same e8) k9
          refine s_ret (ev_op (ev_cb (ea_cons (ev_v (i := 5) rfl) ea_nil) cp_int) (ev_v (i := 1) (v := .int m) rfl) (rp_I (g := fun i j => .int (i % j)) (D := fun _ j => 0 < j) (by omega))) fun v H10 e10 hv => ?_
          cases hv
          exact k _ H10 (kx9.same e10) ⟨ns, turn + 1, great / m, hcp, e10 _ _ hp9, e10 _ _ (kx9 _ _ hcp hc), hns, by omega, by omega, Int.ediv_nonneg hg (by omega)⟩ (Int.emod_nonneg _ (by omega)) (Int.emod_lt_of_pos _ (by omega))
        · have hp7 := e7 _ _ hp6
          have a0 := Int.emod_nonneg cell (b := 2147483563) (by decide)
          have a1 := Int.emod_lt_of_pos cell (b := 2147483563) (by decide)
          refine s_set (ev_op (ev_cb (ea_cons (ev_op (ev_op (ev_op (ev_op (ev_cb (ea_cons (ev_v (i := 4) (v := .int cell) rfl) ea_nil) cp_int) (ev_k (v := .int 2147483563)) (rp_I (g := fun i j => .int (i % j)) (D := fun _ j => 0 < j) (by decide))) (ev_op (ev_k (v := .int 62499)) (ev_v (i := 3) (v := .int turn) rfl) (rp_I (g := fun i j => .int (i * j)) (ct _))) (rp_I0 (g := fun i j => .int (i + j)))) (ev_k (v := .int 987)) (rp_I0 (g := fun i j => .int (i + j)))) (ev_k (v := .int 5)) (rp_I (D := CPow) (g := fun i j => .int (i ^ j.toNat)) ⟨by decide, by decide, by omega⟩)) ea_nil) cp_int) (ev_k (v := .int 2147483629)) (rp_I (g := fun i j => .int (i % j)) (D := fun _ j => 0 < j) (by decide))) fun v H8 e8 hv => ?_
          cases hv
          have x0 := Int.emod_nonneg ((cell % 2147483563 + 62499 * turn + 987) ^ (5 : Int).toNat) (b := 2147483629) (by decide)
          have x1 := Int.emod_lt_of_pos ((cell % 2147483563 + 62499 * turn + 987) ^ (5 : Int).toNat) (b := 2147483629) (by decide)
          generalize (cell % 2147483563 + 62499 * turn + 987) ^ (5 : Int).toNat % 2147483629 = x at x0 x1
          have z0 : 0 ≤ x * (2 * turn + 255) := Int.mul_nonneg x0 (by omega)
          have z1 : x * (2 * turn + 255) ≤ 2147483629 * 2000255 := Int.mul_le_mul (by omega) (by omega) (by omega) (by decide)
          have z2 : 0 ≤ 37157 * turn * turn := Int.mul_nonneg (by omega) ht0
          have z3 : 37157 * turn * turn ≤ 37157000000 * 1000000 := Int.mul_le_mul (by omega) (by omega) ht0 (by decide)
          refine s_set (ev_op (ev_cb (ea_cons (ev_op (ev_op (ev_op (ev_op (ev_v (i := 6) (v := .int x) rfl) (ev_op (ev_op (ev_k (v := .int 2)) (ev_v (i := 3) (v := .int turn) rfl) (rp_I (g := fun i j => .int (i * j)) (ct _))) (ev_k (v := .int 255)) (rp_I0 (g := fun i j => .int (i + j)))) (rp_I (D := CMul) (g := fun i j => .int (i * j)) (.inl ⟨by omega, by omega⟩))) (ev_op (ev_op (ev_k (v := .int 37157)) (ev_v (i := 3) (v := .int turn) rfl) (rp_I (g := fun i j => .int (i * j)) (ct _))) (ev_v (i := 3) (v := .int turn) rfl) (rp_I (g := fun i j => .int (i * j)) (ct _))) (rp_I0 (g := fun i j => .int (i + j)))) (ev_k (v := .int 81)) (rp_I0 (g := fun i j => .int (i + j)))) (ev_k (v := .int 3)) (rp_I (D := CPow) (g := fun i j => .int (i ^ j.toNat)) ⟨by decide, by decide, by omega⟩)) ea_nil) cp_int) (ev_k (v := .int 2147483587)) (rp_I (g := fun i j => .int (i % j)) (D := fun _ j => 0 < j) (by decide))) fun v H9 e9 hv => ?_
          cases hv
          generalize (x * (2 * turn + 255) + 37157 * turn * turn + 81) ^ (3 : Int).toNat % 2147483587 = y
          refine s_ret (ev_op (ev_cb (ea_cons (ev_op (ev_v (i := 6) (v := .int y) rfl) (ev_k (v := .int 32)) (rp_I (D := CDiv) (g := fun i j => .int (i / j)) ⟨by decide, by decide⟩)) ea_nil) cp_int) (ev_v (i := 1) (v := .int m) rfl) (rp_I (g := fun i j => .int (i % j)) (D := fun _ j => 0 < j) (by omega))) fun v H10 e10 hv => ?_
          cases hv
          have e610 := ((e7.trans e8).trans e9).trans e10
          exact k _ H10 (kx6.same e610) ⟨ns, turn + 1, rest, hcp, e610 _ _ hp6, e610 _ _ hc6, hns, by omega, by omega, hr0⟩ (Int.emod_nonneg _ (by omega)) (Int.emod_lt_of_pos _ (by omega))
end
end K22

set_option Elab.async false
set_option linter.all false
set_option pp.maxSteps 400
set_option maxRecDepth 100000
set_option maxHeartbeats 4000000
/-! G2: the law: a pen, a pick. -/
namespace K22
open PySem PySem.Spec PyProof.Rows L2
section
variable {w : World} {K : PySem.W.Frag} {mg : Str → Option Value} {base : Heap}
theorem none_of {H H' : Hp} {a : Addr} (e : Same H H') (h : H' a = none) : H a = none := by
  cases q : H a with
  | none => rfl
  | some o => rw [e _ _ q] at h; cases h
def spPen (K : PySem.W.Frag) : Sp := fun vs H Q _ => ∃ (l : Addr) (ns : List Int), vs = [.ref l] ∧ SqL K H l (ns.map V.int) ∧ ns.length ≤ 63 ∧ ∀ p c H', Same H H' → H p = none → H c = none → penAt 0 p c H' → Q (.ref p) H'
theorem sc_law_pen : FnScope ["_law_script"] ["_law_script"] (defScope s_law_pen) := ⟨rfl, rfl, rfl, by decide +kernel, rfl, by decide +kernel, by decide +kernel⟩
theorem ok_law_pen (G : Fc K mg) : Fn R.prog w K mg base 1 (f_law_pen K) (spPen K) := by
  refine fnA G.d_law_pen sc_law_pen (fun _ _ _ _ _ _ us hl => match us, hl with | [_], _ => rfl) (fun vs H Q h => ?_) (fun vs H Q E h => h) (fun cdv A outer s H vs Q hr h => ?_)
  · obtain ⟨l, ns, rfl, _⟩ := h
    rfl
  · obtain ⟨l, ns, rfl, hl, hn, k⟩ := h
    refine ⟨_, pss_one (ps_ret (pe_lst (pa_cons (pe_callTy call_list_of (by rfl) G.b_list (by decide +kernel) (pa_cons (pe_slice sl_list (pv 0) po_none (po_some pe_int)) pa_nil)) (pa_cons pe_int (pa_cons pe_int pa_nil))))), ?_⟩
    refine ⟨_, rfl, 63, rfl, l, _, rfl, hl, fun q hq => ?_⟩
    have hlen := cutV_length (ns.map V.int) none (some 63)
    rw [List.length_map] at hlen
    have hcut : ∃ zs : List Int, cutV (ns.map V.int) none (some 63) = zs.map V.int := by
      unfold cutV
      rw [← List.map_drop, ← List.map_take]
      exact ⟨_, rfl⟩
    obtain ⟨zs, hcut⟩ := hcut
    rw [hcut] at hlen ⊢
    rw [List.length_map] at hlen
    refine ⟨q, _, rfl, .inl (SqL.of upd_same), fun c hc => ?_⟩
    refine ⟨by show 3 ≤ sizeLine; decide, fun p hp => ?_⟩
    have e1 : Same H (upd H q (.lst (zs.map V.int))) := same_new hq
    have e2 := same_new (o := .lst (zs.map V.int)) hc
    have e3 := same_new (o := .lst [.ref c, .int 0, .int 0]) hp
    refine k p c _ ((e1.trans e2).trans e3) (none_of (e1.trans e2) hp) (none_of e1 hc) ⟨_, 0, 0, ?_, upd_same, e3 _ _ upd_same, ?_, by decide, by decide, by decide⟩
    · rintro rfl
      rw [upd_same] at hp
      cases hp
    · omega
def spPick (K : PySem.W.Frag) : Sp := fun vs H Q _ => ∃ (p c a : Addr) (N : Nat) (xs : List V), vs = [.ref p, .ref a] ∧ penAt N p c H ∧ N ≤ 1000000 ∧ a ≠ p ∧ (H a = some (.lst xs) ∨ SqT K H a xs) ∧ xs ≠ [] ∧ xs.length ≤ 1000 ∧ ∀ (i : Nat) v H', KeepX p H H' → penAt (N + 1) p c H' → xs[i]? = some v → Q v H'
theorem sc_law_pick : FnScope ["_law_pen_here", "_law_some"] ["_law_pen_here", "_law_some"] (defScope s_law_pick) := ⟨rfl, rfl, rfl, by decide +kernel, rfl, by decide +kernel, by decide +kernel⟩
theorem KeepX.sqt {p a : Addr} {H H' : Hp} {xs : List V} (e : KeepX p H H') (hn : a ≠ p) (h : SqT K H a xs) : SqT K H' a xs := by
  rcases h with (h | ⟨o, h⟩) | h
  · exact .inl (.inl (e _ _ hn h))
  · exact .inl (.inr ⟨o, e _ _ hn h⟩)
  · exact .inr h
theorem ok_law_pick (G : Fc K mg) : Fn R.prog w K mg base 2 (f_law_pick K) (spPick K) := by
  refine fnA G.d_law_pick sc_law_pick (fun _ _ _ _ _ _ us hl => match us, hl with | [_, _], _ => rfl) (fun vs H Q h => ?_) (fun vs H Q E h => h) (fun cdv A outer s H vs Q hr h => ?_)
  · obtain ⟨p, c, a, N, xs, rfl, _⟩ := h
    rfl
  · obtain ⟨p, c, a, N, xs, rfl, hp, hN, hap, ha, hne, hlen, k⟩ := h
    refine ⟨_, pss_one (ps_ret (pe_ix (ix_list.or ix_tup) (pv 1) (pe_f (ok_law_draw G) hr G.g_law_draw G.d_law_draw.choose_spec.kp (pa_cons (pv 0) (pa_cons (pe_callB call_len_seq (by rfl) G.b_len PySem.boot_len (pa_cons (pv 1) pa_nil)) pa_nil))) (fun _ _ => rfl))), ?_⟩
    have hpos : 0 < xs.length := by
      rcases Nat.eq_zero_or_pos xs.length with q | q
      · exact absurd (List.length_eq_zero_iff.mp q) hne
      · exact q
    refine ⟨_, rfl, _, rfl, _, rfl, a, xs, rfl, ?_, ?_⟩
    · rcases ha with ha | ha
      · exact .inl (SqL.of ha)
      · exact .inr ha
    · refine ⟨p, c, xs.length, N, rfl, hp, hN, by omega, by omega, fun i H' kx hp' i0 i1 => ?_⟩
      obtain ⟨j, rfl⟩ := Int.eq_ofNat_of_zero_le i0
      have hj : j < xs.length := by omega
      have hat : atI xs (j : Int) = some xs[j] := atI_nat (List.getElem?_eq_getElem hj)
      have kk := k j xs[j] H' kx hp' (List.getElem?_eq_getElem hj)
      rcases ha with ha | ha
      · exact .inl ⟨a, xs, j, _, rfl, rfl, SqL.of (kx _ _ hap ha), hat, kk⟩
      · exact .inr ⟨a, xs, j, _, rfl, rfl, kx.sqt hap ha, hat, kk⟩
end
end K22

set_option Elab.async false
set_option linter.all false
set_option pp.maxSteps 400
set_option maxRecDepth 100000
set_option maxHeartbeats 4000000
/-! G3: the law: values mixed. -/
namespace K22
open PySem PySem.Spec PyProof.Rows L2
section
variable {w : World} {K : PySem.W.Frag} {mg : Str → Option Value} {base : Heap}
theorem perm_erase {xs : List V} {j : Nat} (h : j < xs.length) : (xs[j] :: xs.eraseIdx j).Perm xs := by
  induction xs generalizing j with
  | nil => exact absurd h (by simp)
  | cons x xs ih =>
    cases j with
    | zero => exact List.Perm.refl _
    | succ j =>
      have := ih (j := j) (by simpa using h)
      exact (List.Perm.swap x _ _).trans (this.cons x)
def spMixed (K : PySem.W.Frag) : Sp := fun vs H Q _ => ∃ (p c a : Addr) (N : Nat) (xs : List V), vs = [.ref p, .ref a] ∧ penAt N p c H ∧ N + xs.length ≤ 1000000 ∧ a ≠ p ∧ (H a = some (.lst xs) ∨ SqT K H a xs) ∧ xs.length ≤ 60 ∧ ∀ b ys H', KeepX p H H' → penAt (N + xs.length) p c H' → ys.Perm xs → b ≠ p → H b = none → H' b = some (.lst ys) → Q (.ref b) H'
theorem sc_law_mixed : FnScope ["_law_pen_here", "_law_some", "_law_left", "_law_turn"] ["_law_pen_here", "_law_some"] (defScope s_law_mixed) := ⟨rfl, rfl, rfl, by decide +kernel, rfl, by decide +kernel, by decide +kernel⟩
theorem penAt.hasP {N : Nat} {p c : Addr} {H : Hp} (h : penAt N p c H) : ∃ o, H p = some o := by
  obtain ⟨ns, t, r, h1, h2, _⟩ := h
  exact ⟨_, h2⟩
theorem penAt.hasC {N : Nat} {p c : Addr} {H : Hp} (h : penAt N p c H) : ∃ o, H c = some o := by
  obtain ⟨ns, t, r, h1, h2, h3, _⟩ := h
  exact ⟨_, h3⟩
theorem ok_law_mixed (G : Fc K mg) : Fn R.prog w K mg base 2 (f_law_mixed K) (spMixed K) := by
  refine fnA G.d_law_mixed sc_law_mixed (fun _ _ _ _ _ _ us hl => match us, hl with | [_, _], _ => rfl) (fun vs H Q h => ?_) (fun vs H Q E h => h) (fun cdv A outer s H vs Q hr h => ?_)
  · obtain ⟨p, c, a, N, xs, rfl, _⟩ := h
    rfl
  · obtain ⟨p, c, a, N, xs, rfl, hp, hN, hap, ha, hlen, k⟩ := h
    have nd := sc_law_mixed.nd
    refine ⟨_, pss_cons (ps_set (i := 2) nd rfl (Or.inr rfl) (pe_callTy call_list_of (by rfl) G.b_list (by decide +kernel) (pa_cons (pv 1) pa_nil))) <|
      pss_one (ps_ret (pe_lc (te := tBM K "list" rPopAt (tVar 2) (tCons (tF (spDraw 0) (tCons (tVar 0) (tCons (tCB (fun xs H Q => ∃ p ys, xs = [V.ref p] ∧ (SqL K H p ys ∨ SqT K H p ys) ∧ Q (.int ys.length) H) (tCons (tVar 2) tNil)) tNil))) tNil)) (own := [("_law_turn", 3)]) (g := gName 3) (by rfl) nd (pi_range1 (by rfl) G.b_range (pa_cons (pe_callB call_len_seq (by rfl) G.b_len PySem.boot_len (pa_cons (pv 2) pa_nil)) pa_nil)) (blkOk_by (own := [("_law_turn", 3)]) (N := ["_law_pen_here", "_law_some", "_law_left", "_law_turn"]) (sc := defScope s_law_mixed) (by decide +kernel))
        (fun _ _ _ _ _ => pg_name (i := 3) nd rfl (Or.inl rfl)) (fun _ _ _ _ _ => pts_nil)
        (fun _ _ _ _ _ => pe_bm PySem.F.plainAttrs_list PySem.F.slot_list_pop PySem.F.type_list_pop mt_popAt (pv 2) (pa_cons (pe_f (ok_law_draw G) hr G.g_law_draw G.d_law_draw.choose_spec.kp (pa_cons (pv 0) (pa_cons (pe_callB call_len_seq (by rfl) G.b_len PySem.boot_len (pa_cons (pv 2) pa_nil)) pa_nil))) pa_nil)))), ?_⟩
    refine ⟨_, rfl, a, xs, rfl, ?_, fun l hl => ?_⟩
    · rcases ha with ha | ha
      · exact .inl (SqL.of ha)
      · exact .inr ha
    have e1 : Same H (upd H l (.lst xs)) := same_new hl
    have hpl : p ≠ l := by
      obtain ⟨o, ho⟩ := hp.hasP
      rintro rfl
      rw [ho] at hl
      cases hl
    refine ⟨_, rfl, l, xs, rfl, .inl (SqL.of upd_same), _, rfl, by omega, by omega, fun D hD => ?_⟩
    rw [Int.toNat_natCast]
    have hpD : p ≠ D := by
      obtain ⟨o, ho⟩ := hp.hasP
      rintro rfl
      rw [e1 _ _ ho] at hD
      cases hD
    have hlD : l ≠ D := by rintro rfl; rw [upd_same] at hD; cases hD
    have hD0 : H D = none := by rw [upd_ne hlD.symm] at hD; exact hD
    refine lc_range (fun i H' => KeepX p H H' ∧ penAt (N + i) p c H' ∧ ∃ ys zs, H' D = some (.lst ys) ∧ H' l = some (.lst zs) ∧ ys.length = i ∧ zs.length + i = xs.length ∧ (ys ++ zs).Perm xs) ⟨?_, ?_, [], xs, upd_same, ?_, rfl, rfl, List.Perm.refl _⟩ ?_ ?_
    · exact Same.keepX (e1.trans (same_new hD))
    · exact hp.mono (e1.trans (same_new hD)) (Nat.le_add_right _ _)
    · rw [upd_ne hlD]; exact upd_same
    · rintro i H1 hi ⟨k1, hp1, ys, zs, hD1, hl1, hyl, hzl, hperm⟩
      refine ⟨rfl, ?_⟩
      refine ⟨_, rfl, .inl ⟨rfl, _, SqL.of hl1⟩, _, rfl, _, rfl, l, zs, rfl, .inl (SqL.of hl1), ?_⟩
      refine ⟨p, c, zs.length, N + i, rfl, hp1, by omega, by omega, by omega, fun j H2 k2 hp2 j0 j1 => ?_⟩
      obtain ⟨j, rfl⟩ := Int.eq_ofNat_of_zero_le j0
      have hj : j < zs.length := by omega
      have hl2 := k2 _ _ hpl.symm hl1
      have hD2 := k2 _ _ hpD.symm hD1
      refine ⟨l, zs, j, j, zs[j], rfl, rfl, hl2, by omega, by omega, ?_, List.getElem?_eq_getElem hj, ?_⟩
      · unfold seqIndex?
        simp
        omega
      · refine ⟨ys, by rw [upd_ne hlD.symm]; exact hD2, small1000 (by omega), ?_, ?_, ys ++ [zs[j]], zs.eraseIdx j, upd_same, by rw [upd_ne hlD]; exact upd_same, by rw [List.length_append, hyl]; rfl, ?_, ?_⟩
        · have h3 := KeepX.trans k1 k2
          intro b o hb ho
          rw [upd_ne (by rintro rfl; rw [hD0] at ho; cases ho), upd_ne (by rintro rfl; rw [hl] at ho; cases ho)]
          exact h3 b o hb ho
        · obtain ⟨ns, t, r, h1, h2, h3, h4⟩ := hp2
          have hcl : c ≠ l ∧ c ≠ D := by
            obtain ⟨o, ho⟩ := hp.hasC
            exact ⟨(by rintro rfl; rw [hl] at ho; cases ho), (by rintro rfl; rw [hD0] at ho; cases ho)⟩
          refine ⟨ns, t, r, h1, by rw [upd_ne hpD, upd_ne hpl]; exact h2, by rw [upd_ne hcl.2, upd_ne hcl.1]; exact h3, h4⟩
        · rw [List.length_eraseIdx, if_pos hj]
          omega
        · have := perm_erase hj
          refine List.Perm.trans ?_ hperm
          rw [List.append_assoc]
          exact (List.perm_append_left_iff ys).mpr this
    · rintro H1 ⟨k1, hp1, ys, zs, hD1, hl1, hyl, hzl, hperm⟩
      have hz0 : zs = [] := List.length_eq_zero_iff.mp (by omega)
      rw [hz0, List.append_nil] at hperm
      exact k D ys H1 k1 hp1 hperm hpD.symm hD0 hD1
end
end K22

set_option Elab.async false
set_option linter.all false
set_option pp.maxSteps 400
set_option maxRecDepth 100000
set_option maxHeartbeats 4000000
/-! G4: the law: titles. -/
namespace K22
open PySem PySem.Spec PyProof.Rows L2
section
variable {w : World} {K : PySem.W.Frag} {mg : Str → Option Value} {base : Heap}
def TITLES : List Str := ["a", "b", "p", "q", "run", "stay", "day", "zz", "zzzzzzzz", "self", "ab", "abcdefgh", "x", "y", "to", "k"]
def spTitles : Sp := fun vs H Q _ => ∃ (p c : Addr) (N : Nat), vs = [.ref p] ∧ penAt N p c H ∧ N + 16 ≤ 1000000 ∧ ∀ b (ys : List Str) H', KeepX p H H' → penAt (N + 16) p c H' → ys.Perm TITLES → b ≠ p → H b = none → H' b = some (.lst (ys.map V.str)) → Q (.ref b) H'
theorem sc_law_titles : FnScope ["_law_pen_here", "_law_some"] ["_law_pen_here"] (defScope s_law_titles) := ⟨rfl, rfl, rfl, by decide +kernel, rfl, by decide +kernel, by decide +kernel⟩
theorem perm_str {ys : List V} {zs : List Str} (h : ys.Perm (zs.map V.str)) : ∃ us : List Str, ys = us.map V.str ∧ us.Perm zs := by
  induction zs generalizing ys with
  | nil => exact ⟨[], List.perm_nil.mp h, List.Perm.refl _⟩
  | cons z zs ih =>
    have hm : V.str z ∈ ys := h.mem_iff.mpr (.head _)
    obtain ⟨l1, l2, rfl⟩ := List.append_of_mem hm
    have h2 : (l1 ++ l2).Perm (zs.map V.str) := by
      have := List.perm_middle.symm.trans h
      exact (List.perm_cons _).mp this
    obtain ⟨us, e, hu⟩ := ih h2
    obtain ⟨u1, u2, rfl, rfl, rfl⟩ := List.append_eq_map_iff.mp e
    exact ⟨u1 ++ z :: u2, by rw [List.map_append]; rfl, List.perm_middle.trans (hu.cons z)⟩
theorem ok_law_titles (G : Fc K mg) : Fn R.prog w K mg base 3 (f_law_titles K) spTitles := by
  refine fnA G.d_law_titles sc_law_titles (fun _ _ _ _ _ _ us hl => match us, hl with | [_], _ => rfl) (fun vs H Q h => ?_) (fun vs H Q E h => h) (fun cdv A outer s H vs Q hr h => ?_)
  · obtain ⟨p, c, N, rfl, _⟩ := h
    rfl
  · obtain ⟨p, c, N, rfl, hp, hN, k⟩ := h
    have nd := sc_law_titles.nd
    refine ⟨_, pss_cons (ps_set (i := 1) nd rfl (Or.inl rfl) (pe_lst (pa_cons pe_str (pa_cons pe_str (pa_cons pe_str (pa_cons pe_str (pa_cons pe_str (pa_cons pe_str (pa_cons pe_str (pa_cons pe_str (pa_cons pe_str (pa_cons pe_str (pa_cons pe_str (pa_cons pe_str (pa_cons pe_str (pa_cons pe_str (pa_cons pe_str (pa_cons pe_str pa_nil)))))))))))))))))) <|
      pss_one (ps_ret (pe_f (ok_law_mixed G) hr G.g_law_mixed G.d_law_mixed.choose_spec.kp (pa_cons (pv 0) (pa_cons (pv 1) pa_nil)))), ?_⟩
    refine ⟨by show 16 ≤ sizeLine; decide, fun l hl => ?_⟩
    have e1 : Same H (upd H l (.lst (TITLES.map V.str))) := same_new hl
    have hpl : l ≠ p := by
      obtain ⟨o, ho⟩ := hp.hasP
      rintro rfl
      rw [ho] at hl
      cases hl
    refine ⟨_, rfl, _, rfl, p, c, l, N, TITLES.map V.str, rfl, hp.mono e1 (Nat.le_refl _), hN, hpl, .inl upd_same, by decide, fun b ys H' kx hp' hperm hbp hb hb' => ?_⟩
    obtain ⟨us, rfl, hu⟩ := perm_str hperm
    exact k b us H' (KeepX.trans (Same.keepX e1) kx) hp' hu hbp (none_of e1 hb) hb'
end
end K22

set_option Elab.async false
set_option linter.all false
set_option pp.maxSteps 400
set_option maxRecDepth 100000
set_option maxHeartbeats 4000000
/-! G5a: plain: rings. -/
namespace K22
open PySem PySem.Spec PyProof.Rows L2
def balT (ts : List Tr) : Prop := ∀ z : Str, (ts.filter fun t => decide (t.goal = z)).length = (ts.filter fun t => decide (t.start = z)).length
def nextR (ring : List Str) (k : Nat) : Str := ring.getD ((k + 1) % ring.length) default
theorem ring_perm (ring : List Str) : ((List.range ring.length).map (nextR ring)).Perm ring := by
  cases ring with
  | nil => exact List.Perm.refl _
  | cons h tl =>
    have e : (List.range (h :: tl).length).map (nextR (h :: tl)) = tl ++ [h] := by
      have hl : (h :: tl).length = tl.length + 1 := rfl
      rw [hl, List.range_succ, List.map_append]
      congr 1
      · have := range_map1 tl default fun z => z
        rw [List.filter_eq_self.mpr fun _ _ => rfl, List.map_id'] at this
        refine Eq.trans ?_ this
        refine List.map_congr_left fun k hk => ?_
        have hk := List.mem_range.mp hk
        unfold nextR
        rw [hl, Nat.mod_eq_of_lt (by omega)]
        rfl
      · show [nextR (h :: tl) tl.length] = [h]
        unfold nextR
        rw [hl, Nat.mod_self]
        rfl
    rw [e]
    exact List.perm_append_singleton h tl
theorem filt_map {f : Tr → Str} {ts : List Tr} {z : Str} : (ts.filter fun t => decide (f t = z)).length = ((ts.map f).filter fun y => decide (y = z)).length := by
  rw [List.filter_map, List.length_map]
  rfl
theorem balT_app {ts part : List Tr} (h : balT ts) (p : (part.map (·.goal)).Perm (part.map (·.start))) : balT (ts ++ part) := fun z => by
  rw [List.filter_append, List.filter_append, List.length_append, List.length_append, h z]
  congr 1
  rw [filt_map (f := (·.goal)), filt_map (f := (·.start))]
  exact (p.filter _).length_eq
end K22

set_option Elab.async false
set_option linter.all false
set_option pp.maxSteps 400
set_option maxRecDepth 100000
set_option maxHeartbeats 4000000
/-! G5b: the law: rows: their steps. -/
namespace K22
open PySem PySem.Spec PyProof.Rows L2
section
variable {w : World} {K : PySem.W.Frag} {mg : Str → Option Value} {base : Heap}
theorem nl_draw {p c : Addr} {N M : Nat} {H H' : Hp} (k : KeepX p H H') (h : penAt N p c H) (h' : penAt M p c H') : NL H H' := fun b o hb => by
  by_cases q : b = p
  · subst q
    obtain ⟨ns, t, r, _, h2, _⟩ := h
    obtain ⟨ns', t', r', _, h2', _⟩ := h'
    rw [h2] at hb
    cases hb
    exact .inr ⟨_, _, rfl, h2'⟩
  · exact .inl (k b o q hb)
/-- a row -/
def Tr.rowV (t : Tr) : List V := [.str t.word, .str t.name, .str t.start, .int t.leaves, .int t.takes, .str t.goal]
def rowQ (t : Tr) : VQ := tupQ (t.rowV.map is)
instance {t : Tr} : Stab (rowQ t) := by unfold rowQ; exact inferInstance
def rowsQ (ts : List Tr) : List VQ := ts.map rowQ
instance {ts : List Tr} : StabL (rowsQ ts) := by unfold rowsQ; exact inferInstance
def RowOk (long : Int) (spots : List Str) (u : Tr) : Prop := u.Ok ∧ u.leaves < long ∧ u.takes ≤ 2 * long + 1 ∧ u.start ∈ spots ∧ u.goal ∈ spots ∧ u.name ∈ TITLES
/-- where the rows stand -/
structure RS (long : Int) (p c t sp f : Addr) (spots : List Str) (H0 : Hp) (M : Nat) (ts : List Tr) (H : Hp) : Prop where
  keep : KeepX p H0 H
  pen : penAt M p c H
  spt : H sp = some (.lst (spots.map V.str))
  rows : ∀ u ∈ ts, RowOk long spots u
  rest : ∃ ys vs, H t = some (.lst (ys.map V.str)) ∧ H f = some (.lst vs) ∧ All2 (rowsQ ts) vs H ∧ (ts.map (·.name) ++ ys).Perm TITLES
structure RA (p c t sp f : Addr) (H0 : Hp) : Prop where
  t0 : H0 t = none
  s0 : H0 sp = none
  f0 : H0 f = none
  pt : t ≠ p
  ps : sp ≠ p
  pf : f ≠ p
  ts : t ≠ sp
  tf : t ≠ f
  sf : sp ≠ f
  c0 : c ≠ p
  ct : c ≠ t
  cs : c ≠ sp
  cf : c ≠ f
section
variable {long : Int} {p c t sp f : Addr} {spots : List Str} {H0 H H' : Hp} {M M' : Nat} {ts : List Tr}
theorem RS.draw (A : RA p c t sp f H0) (S : RS long p c t sp f spots H0 M ts H) (k : KeepX p H H') (h : penAt M' p c H') : RS long p c t sp f spots H0 M' ts H' := by
  obtain ⟨ys, vs, h1, h2, h3, h4⟩ := S.rest
  exact ⟨KeepX.trans S.keep k, h, k _ _ A.ps S.spt, S.rows, ys, vs, k _ _ A.pt h1, k _ _ A.pf h2, StabL.st (nl_draw k S.pen h) h3, h4⟩
theorem RS.same (A : RA p c t sp f H0) (S : RS long p c t sp f spots H0 M ts H) (e : Same H H') : RS long p c t sp f spots H0 M ts H' := S.draw A (Same.keepX e) (S.pen.mono e (Nat.le_refl _))
theorem RS.le (S : RS long p c t sp f spots H0 M ts H) (h : M ≤ M') : RS long p c t sp f spots H0 M' ts H := ⟨S.keep, S.pen.mono (Same.refl _) h, S.spt, S.rows, S.rest⟩
theorem pen_upd {a : Addr} {o : HO} (h : penAt M p c H) (hp : a ≠ p) (hc : a ≠ c) : penAt M p c (upd H a o) := by
  obtain ⟨ns, t, r, h1, h2, h3, h4⟩ := h
  exact ⟨ns, t, r, h1, by rw [upd_ne hp.symm]; exact h2, by rw [upd_ne hc.symm]; exact h3, h4⟩
theorem KeepX.upd0 {a : Addr} {o : HO} (k : KeepX p H0 H) (h : H0 a = none) : KeepX p H0 (upd H a o) := fun b u hb hu => by
  rw [upd_ne (by rintro rfl; rw [h] at hu; cases hu)]
  exact k b u hb hu
end

section
variable {long : Int} {p c t sp f : Addr} {spots : List Str} {H0 H : Hp} {M : Nat} {ts : List Tr} {u : TS} {D : Ends} {s6 s7 s8 s11 s12 s13 : Option V} {a b : Str}
abbrev tDraw (te : TE) : TE := tF (spDraw 0) (tCons (tVar 0) (tCons te tNil))
theorem s_word (A : RA p c t sp f H0) (S : RS long p c t sp f spots H0 M ts H) (hM : M ≤ 1000000)
    (k : ∀ (st : Bool) H', (st = true → b = a) → KeepX p H H' → RS long p c t sp f spots H0 (M + 1) ts H' → u D [some (.ref p), some (.int long), some (.int 4), some (.ref t), some (.ref sp), some (.ref f), s6, s7, s8, some (.str a), some (.str b), some (.str (if st = true then "stay" else "run")), s12, s13] H') :
    tSeq (tAsg (tIf (tAnd (tTest (tOp rEq (tVar 9) (tVar 10))) (tTest (tOp rEq (tDraw (tC (.int 2))) (tC (.int 0))))) (tC (.str "stay")) (tC (.str "run"))) (gName 11)) u D [some (.ref p), some (.int long), some (.int 4), some (.ref t), some (.ref sp), some (.ref f), s6, s7, s8, some (.str a), some (.str b), s11, s12, s13] H := by
  refine et_test (ev_op (ev_v (i := 9) (v := .str a) rfl) (ev_v (i := 10) (v := .str b) rfl) (rp_eq rfl)) H (Same.refl H) _ fun H1 e1 => ?_
  have S1 := S.same A e1
  by_cases hab : a = b
  · rw [decide_eq_true (by rw [hab]), if_pos rfl]
    refine ⟨_, rfl, p, c, 2, M, rfl, S1.pen, hM, by decide, by decide, fun d H2 k2 hp2 d0 d1 => ?_⟩
    have S2 := S1.draw A k2 hp2
    refine ⟨rfl, _, rfl, ?_⟩
    by_cases hd : V.int d = V.int 0
    · rw [decide_eq_true hd]
      exact k true H2 (fun _ => hab.symm) (KeepX.trans (Same.keepX e1) k2) S2
    · rw [decide_eq_false hd]
      exact k false H2 (fun h => nomatch h) (KeepX.trans (Same.keepX e1) k2) S2
  · rw [decide_eq_false (fun h => hab (by injection h))]
    exact k false H1 (fun h => nomatch h) (Same.keepX e1) (S1.le (Nat.le_succ _))
end
end
end K22

set_option Elab.async false
set_option linter.all false
set_option pp.maxSteps 400
set_option maxRecDepth 100000
set_option maxHeartbeats 4000000
/-! G5c: the law: rows: their steps. -/
namespace K22
open PySem PySem.Spec PyProof.Rows L2
section
variable {K : PySem.W.Frag} {long : Int} {p c t sp f : Addr} {spots : List Str} {H0 H : Hp} {M : Nat} {ts : List Tr} {u : TS} {D : Ends} {s6 s7 s8 s11 s12 s13 : Option V} {a b : Str}
theorem s_span (A : RA p c t sp f H0) (S : RS long p c t sp f spots H0 M ts H) (hM : M + 1 ≤ 1000000) (h1 : 1 ≤ long) (h2 : long ≤ 1000000000)
    (k : ∀ (n : Int) H', 1 ≤ n → n ≤ 2 * long + 1 → KeepX p H H' → RS long p c t sp f spots H0 (M + 2) ts H' → u D [some (.ref p), some (.int long), some (.int 4), some (.ref t), some (.ref sp), some (.ref f), s6, s7, s8, some (.str a), some (.str b), s11, some (.int n), s13] H') :
    tSeq (tAsg (tCB rMn (tCons (tOp (rI CPow fun i j => .int (i ^ j.toNat)) (tC (.int 10)) (tC (.int 12))) (tCons (tInt (tF (spPick K) (tCons (tVar 0) (tCons (tLst (tCons (tC (.int 1)) (tCons (tOp (rI0 fun i j => .int (i + j)) (tC (.int 1)) (tDraw (tVar 1))) (tCons (tVar 1) (tCons (tOp (rI0 fun i j => .int (i + j)) (tOp (rI CMul fun i j => .int (i * j)) (tC (.int 2)) (tVar 1)) (tC (.int 1))) tNil))))) tNil)))) tNil))) (gName 12)) u D [some (.ref p), some (.int long), some (.int 4), some (.ref t), some (.ref sp), some (.ref f), s6, s7, s8, some (.str a), some (.str b), s11, s12, s13] H := by
  refine ⟨10, 12, rfl, rfl, ⟨by decide, by decide, by decide⟩, ?_⟩
  refine ⟨_, rfl, ?_⟩
  refine ⟨_, rfl, _, rfl, p, c, long, M, rfl, S.pen, by omega, h1, by omega, fun d H1 k1 hp1 d0 d1 => ?_⟩
  have S1 := S.draw A k1 hp1
  refine ⟨1, d, rfl, rfl, _, rfl, _, rfl, 2, long, rfl, rfl, .inl ⟨by decide, by decide⟩, 2 * long, 1, rfl, rfl, ?_⟩
  refine ⟨by show 4 ≤ sizeLine; decide, fun q hq => ?_⟩
  have e2 := same_new (o := .lst [V.int 1, V.int (1 + d), V.int long, V.int (2 * long + 1)]) hq
  have hqp : q ≠ p := by
    obtain ⟨o, ho⟩ := hp1.hasP
    rintro rfl
    rw [ho] at hq
    cases hq
  refine ⟨p, c, q, M + 1, _, rfl, hp1.mono e2 (Nat.le_refl _), hM, hqp, .inl upd_same, List.cons_ne_nil _ _, (by show 4 ≤ 1000; decide), fun i v H3 k3 hp3 hv => ?_⟩
  have S3 := (S1.same A e2).draw A k3 hp3
  have hn : ∃ n : Int, v = .int n ∧ 1 ≤ n ∧ n ≤ 2 * long + 1 := by
    have hm := List.mem_of_getElem? hv
    simp only [List.mem_cons, List.not_mem_nil, or_false] at hm
    rcases hm with rfl | rfl | rfl | rfl
    · exact ⟨_, rfl, by omega, by omega⟩
    · exact ⟨_, rfl, by omega, by omega⟩
    · exact ⟨_, rfl, by omega, by omega⟩
    · exact ⟨_, rfl, by omega, by omega⟩
  obtain ⟨n, rfl, n1, n2⟩ := hn
  refine .inl ⟨n, rfl, _, n, rfl, ?_⟩
  have p12 : ((10 : Int) ^ (12 : Int).toNat) = 1000000000000 := by decide
  rw [p12, if_pos (by omega)]
  exact k n H3 n1 n2 (KeepX.trans (KeepX.trans k1 (Same.keepX e2)) k3) S3
end
end K22

set_option Elab.async false
set_option linter.all false
set_option pp.maxSteps 400
set_option maxRecDepth 100000
set_option maxHeartbeats 4000000
/-! G5d: the law: rows: a row put. -/
namespace K22
open PySem PySem.Spec PyProof.Rows L2
theorem titles_ok : ∀ z ∈ TITLES, nameOk z = true := by decide +kernel
section
variable {K : PySem.W.Frag} {long : Int} {p c t sp f : Addr} {spots : List Str} {H0 H : Hp} {M : Nat} {ts : List Tr} {D : Ends} {s6 s7 s8 s13 : Option V} {a b : Str} {n : Int} {st : Bool}
theorem s_row (A : RA p c t sp f H0) (S : RS long p c t sp f spots H0 M ts H) (hM : M ≤ 1000000) (h1 : 1 ≤ long) (h2 : long ≤ 1000000000) (hn1 : 1 ≤ n) (hn2 : n ≤ 2 * long + 1) (ha : a ∈ spots) (hb : b ∈ spots) (hst : st = true → b = a) (hsp : ∀ z ∈ spots, z ∈ TITLES) (hts : ts.length ≤ 11)
    (k : ∀ (d : Int) (z : Str) H', (∀ r o, r ≠ p → r ≠ t → r ≠ f → H r = some o → H' r = some o) → RS long p c t sp f spots H0 (M + 1) (ts ++ [⟨st, z, a, d, n, b⟩]) H' → D.nx [some (.ref p), some (.int long), some (.int 4), some (.ref t), some (.ref sp), some (.ref f), s6, s7, s8, some (.str a), some (.str b), some (.str (if st = true then "stay" else "run")), some (.int n), s13] H') :
    tBM K "list" rAppend (tVar 5) (tCons (tTup (tCons (tVar 11) (tCons (tBM0 K "list" rPop (tVar 3)) (tCons (tVar 9) (tCons (tDraw (tVar 1)) (tCons (tVar 12) (tCons (tVar 10) tNil))))))) tNil) [some (.ref p), some (.int long), some (.int 4), some (.ref t), some (.ref sp), some (.ref f), s6, s7, s8, some (.str a), some (.str b), some (.str (if st = true then "stay" else "run")), some (.int n), s13] H (fun _ H1 => D.nx [some (.ref p), some (.int long), some (.int 4), some (.ref t), some (.ref sp), some (.ref f), s6, s7, s8, some (.str a), some (.str b), some (.str (if st = true then "stay" else "run")), some (.int n), s13] H1) := by
  obtain ⟨ys, vs, ht, hf, hv, hp⟩ := S.rest
  have hl : (ts.map (·.name) ++ ys).length = 16 := hp.length_eq
  rw [List.length_append, List.length_map] at hl
  have hne : ys ≠ [] := by rintro rfl; simp at hl; omega
  obtain ⟨ys', z, rfl⟩ : ∃ ys' z, ys = ys' ++ [z] := ⟨ys.dropLast, ys.getLast hne, (List.dropLast_concat_getLast hne).symm⟩
  have hz : z ∈ TITLES := hp.mem_iff.mp (List.mem_append_right _ (List.mem_append_right _ (.head _)))
  refine ⟨_, rfl, .inl ⟨rfl, _, SqL.of hf⟩, ?_⟩
  refine ⟨_, rfl, _, rfl, .inl ⟨rfl, _, SqL.of ht⟩, ?_⟩
  refine ⟨t, _, .str z, rfl, rfl, ht, ?_, ?_⟩
  · rw [List.length_map, List.map_append, List.length_append]
    show (ys'.map V.str ++ [V.str z])[ys'.length + 1 - 1]? = some (V.str z)
    rw [Nat.add_sub_cancel, List.getElem?_append_right (by rw [List.length_map]; exact Nat.le_refl _), List.length_map, Nat.sub_self]
    rfl
  have hdl : ((ys' ++ [z]).map V.str).dropLast = ys'.map V.str := by rw [List.map_append]; exact List.dropLast_concat
  rw [hdl]
  have hp1 := pen_upd (o := .lst (ys'.map V.str)) S.pen A.pt A.ct.symm
  refine ⟨_, rfl, _, rfl, _, rfl, p, c, long, M, rfl, hp1, hM, h1, by omega, fun d H2 k2 hp2 d0 d1 => ?_⟩
  refine ⟨_, rfl, _, rfl, ?_⟩
  refine ⟨by show 6 ≤ sizeLine; decide, fun T hT => ?_⟩
  have hf1 : upd H t (.lst (ys'.map V.str)) f = some (.lst vs) := by rw [upd_ne A.tf.symm]; exact hf
  have hf2 := k2 _ _ A.pf hf1
  have eT := same_new (o := .tup [.str (if st = true then "stay" else "run"), .str z, .str a, .int d, .int n, .str b]) hT
  have hf3 := eT _ _ hf2
  have ht1 : upd H t (.lst (ys'.map V.str)) t = some (.lst (ys'.map V.str)) := upd_same
  have ht3 := eT _ _ (k2 _ _ A.pt ht1)
  have hs1 : upd H t (.lst (ys'.map V.str)) sp = some (.lst (spots.map V.str)) := by rw [upd_ne A.ts.symm]; exact S.spt
  have hs3 := eT _ _ (k2 _ _ A.ps hs1)
  have nl : NL H (upd (upd H2 T (.tup [.str (if st = true then "stay" else "run"), .str z, .str a, .int d, .int n, .str b])) f (.lst (vs ++ [.ref T]))) :=
    ((((nl_put ht).trans (nl_draw k2 hp1 hp2)).trans (nl_same eT)).trans (nl_put hf3))
  have hvl : vs.length = ts.length := by rw [← hv.length]; exact List.length_map _
  refine ⟨f, vs, .ref T, rfl, rfl, hf3, small1000 (by omega), ?_⟩
  have tT : T ≠ f := by rintro rfl; rw [hf2] at hT; cases hT
  refine k d z _ (fun r o r1 r2 r3 hr => ?_) ?_
  · rw [upd_ne r3]
    exact eT _ _ (k2 _ _ r1 (by rw [upd_ne r2]; exact hr))
  refine ⟨?_, ?_, by rw [upd_ne A.sf]; exact hs3, fun u hu => ?_, ys', vs ++ [.ref T], by rw [upd_ne A.tf]; exact ht3, upd_same, ?_, ?_⟩
  · exact KeepX.upd0 (KeepX.trans (KeepX.trans (KeepX.upd0 S.keep A.t0) k2) (Same.keepX eT)) A.f0
  · exact pen_upd (hp2.mono eT (Nat.le_refl _)) A.pf A.cf.symm
  · rcases List.mem_append.mp hu with hu | hu
    · exact S.rows u hu
    · rw [List.mem_singleton.mp hu]
      exact ⟨⟨titles_ok z hz, titles_ok a (hsp a ha), titles_ok b (hsp b hb), d0, (by show d ≤ 1000000000000; omega), hn1, (by show n ≤ 1000000000000; omega), hst⟩, d1, hn2, ha, hb, hz⟩
  · unfold rowsQ
    rw [List.map_append]
    refine (StabL.st nl hv).app (.cons ⟨T, _, rfl, by rw [upd_ne tT]; exact upd_same, ?_⟩ .nil)
    exact .cons rfl (.cons rfl (.cons rfl (.cons rfl (.cons rfl (.cons rfl .nil)))))
  · rw [List.map_append, List.append_assoc]
    refine List.Perm.trans ?_ hp
    exact (List.perm_append_left_iff _).mpr (List.perm_append_singleton z ys').symm
end
end K22

set_option Elab.async false
set_option linter.all false
set_option pp.maxSteps 400
set_option maxRecDepth 100000
set_option maxHeartbeats 4000000
/-! G5: the law: rows. -/
namespace K22
open PySem PySem.Spec PyProof.Rows L2
section
variable {w : World} {K : PySem.W.Frag} {mg : Str → Option Value} {base : Heap}
abbrev NR : List Str := ["_law_pen_here", "_law_long", "_law_most", "_law_titles_here", "_law_spots", "_law_found", "_law_lap", "_law_ring", "_law_at", "_law_home", "_law_target", "_law_word", "_law_span", "_law_turn"]
theorem sc_law_rows : FnScope NR ["_law_pen_here", "_law_long", "_law_most"] (defScope s_law_rows) := ⟨rfl, rfl, rfl, by decide +kernel, rfl, by decide +kernel, by decide +kernel⟩
def spRows (K : PySem.W.Frag) : Sp := fun vs H Q _ => ∃ (p c : Addr) (N : Nat) (long : Int), vs = [.ref p, .int long, .int 4] ∧ penAt N p c H ∧ N + 300 ≤ 1000000 ∧ 1 ≤ long ∧ long ≤ 1000000000 ∧
  ∀ b vs (ts : List Tr) (spots : List Str) H', KeepX p H H' → penAt (N + 300) p c H' → H' b = some (.lst vs) → All2 (rowsQ ts) vs H' → b ≠ p → H b = none → ts.length ≤ 12 → (∀ t ∈ ts, t.Ok ∧ t.leaves < long ∧ t.takes ≤ 2 * long + 1 ∧ t.start ∈ spots ∧ t.goal ∈ spots ∧ t.name ∈ TITLES) → (ts.map (·.name)).Nodup → balT ts → spots.length ≤ 4 → (∀ z ∈ spots, z ∈ TITLES) → Q (.ref b) H'
theorem ok_law_rows (G : Fc K mg) : Fn R.prog w K mg base 4 (f_law_rows K) (spRows K) := by
  refine fnA G.d_law_rows sc_law_rows (fun _ _ _ _ _ _ us hl => match us, hl with | [_, _, _], _ => rfl) (fun vs H Q h => ?_) (fun vs H Q E h => h) (fun cdv A outer s H vs Q hr h => ?_)
  · obtain ⟨p, c, N, long, rfl, _⟩ := h
    rfl
  · obtain ⟨p, c, N, long, rfl, hp, hN, hl1, hl2, k⟩ := h
    have nd := sc_law_rows.nd
    refine ⟨_, pss_cons (ps_asg (pe_tup (pa_cons (pe_f (ok_law_titles G) hr G.g_law_titles G.d_law_titles.choose_spec.kp (pa_cons (pv 0) pa_nil)) (pa_cons (pe_slice sl_list (pe_f (ok_law_titles G) hr G.g_law_titles G.d_law_titles.choose_spec.kp (pa_cons (pv 0) pa_nil)) po_none (po_some (pe_op op_add pe_int (pe_f (ok_law_draw G) hr G.g_law_draw G.d_law_draw.choose_spec.kp (pa_cons (pv 0) (pa_cons pe_int pa_nil)))))) (pa_cons (pe_lst pa_nil) pa_nil))))
        (pg_tup rfl (pgs_cons (pg_name (i := 3) nd rfl (Or.inl rfl)) (pgs_cons (pg_name (i := 4) nd rfl (Or.inr rfl)) (pgs_cons (pg_name (i := 5) nd rfl (Or.inl rfl)) pgs_nil))))) <|
      pss_cons (ps_for PassesOwn.never rfl (pi_range1 (by rfl) G.b_range (pa_cons (pe_f (ok_law_draw G) hr G.g_law_draw G.d_law_draw.choose_spec.kp (pa_cons (pv 0) (pa_cons (pe_op op_add (pv 2) pe_int) pa_nil))) pa_nil)) (pg_name (i := 6) nd rfl (Or.inl rfl))
        (pss_cons (ps_setLc (i := 7) (te := tF (spPick K) (tCons (tVar 0) (tCons (tVar 4) tNil))) (own := [("_law_turn", 13)]) (g := gName 13) (by rfl) nd rfl rfl (sw_true rfl rfl rfl (by decide +kernel)) (pi_range1 (by rfl) G.b_range (pa_cons (pe_op op_add pe_int (pe_f (ok_law_draw G) hr G.g_law_draw G.d_law_draw.choose_spec.kp (pa_cons (pv 0) (pa_cons pe_int pa_nil)))) pa_nil)) (blkOk_by (own := [("_law_turn", 13)]) (N := NR) (sc := defScope s_law_rows) (by decide +kernel))
            (fun _ _ _ _ _ => pg_name (i := 13) nd rfl (Or.inl rfl)) (fun _ _ _ _ _ => pts_nil) (fun _ _ _ _ _ => pe_f (ok_law_pick G) hr G.g_law_pick G.d_law_pick.choose_spec.kp (pa_cons (pv 0) (pa_cons (pv 4) pa_nil)))) <|
         pss_one (ps_for PassesOwn.never rfl (pi_range1 (by rfl) G.b_range (pa_cons (pe_callB call_len_seq (by rfl) G.b_len PySem.boot_len (pa_cons (pv 7) pa_nil)) pa_nil)) (pg_name (i := 8) nd rfl (Or.inl rfl))
           (pss_cons (ps_par (i := 9) (j := 10) rfl nd rfl rfl (by decide) rfl rfl (pa_cons (pe_ix ix_list (pv 7) (pv 8) (fun _ _ => rfl)) (pa_cons (pe_ix ix_list (pv 7) (pe_op op_mod (pe_callTy call_int1 (by rfl) G.b_int (by decide +kernel) (pa_cons (pe_op op_add (pv 8) pe_int) pa_nil)) (pe_callB call_len_seq (by rfl) G.b_len PySem.boot_len (pa_cons (pv 7) pa_nil))) (fun _ _ => rfl)) pa_nil)) (by rfl)) <|
            pss_cons (ps_set (i := 11) nd rfl (Or.inl rfl) (pe_ifExp (PW.pt (pw_and (pt_cmpR op_eq (pv 9) (pv 10) (nomark _)) (pw_and1 (pt_cmpR op_eq (pe_f (ok_law_draw G) hr G.g_law_draw G.d_law_draw.choose_spec.kp (pa_cons (pv 0) (pa_cons pe_int pa_nil))) pe_int (nomark _))))) pe_str pe_str)) <|
            pss_cons (ps_set (i := 12) nd rfl (Or.inl rfl) (pe_callB (call_min2 rfl) (by rfl) G.b_min (by decide +kernel) (pa_cons (pe_op op_pow pe_int pe_int) (pa_cons (pe_callTy call_int1 (by rfl) G.b_int (by decide +kernel) (pa_cons (pe_f (ok_law_pick G) hr G.g_law_pick G.d_law_pick.choose_spec.kp (pa_cons (pv 0) (pa_cons (pe_lst (pa_cons pe_int (pa_cons (pe_op op_add pe_int (pe_f (ok_law_draw G) hr G.g_law_draw G.d_law_draw.choose_spec.kp (pa_cons (pv 0) (pa_cons (pv 1) pa_nil)))) (pa_cons (pv 1) (pa_cons (pe_op op_add (pe_op op_mul pe_int (pv 1)) pe_int) pa_nil))))) pa_nil))) pa_nil)) pa_nil)))) <|
            pss_one (ps_expr (pe_bm PySem.F.plainAttrs_list PySem.F.slot_list_append PySem.F.type_list_append mt_append (pv 5) (pa_cons (pe_tup (pa_cons (pv 11) (pa_cons (pe_bm0 PySem.F.plainAttrs_list PySem.F.slot_list_pop PySem.F.type_list_pop mt_pop (pv 3)) (pa_cons (pv 9) (pa_cons (pe_f (ok_law_draw G) hr G.g_law_draw G.d_law_draw.choose_spec.kp (pa_cons (pv 0) (pa_cons (pv 1) pa_nil))) (pa_cons (pv 12) (pa_cons (pv 10) pa_nil))))))) pa_nil))))))) <|
      pss_one (ps_ret (pv 5)), ?_⟩
    refine ⟨_, rfl, p, c, N, rfl, hp, by omega, fun b1 ys1 H1 k1 hp1 pm1 hb1 hn1 he1 => ?_⟩
    refine ⟨_, rfl, p, c, N + 16, rfl, hp1, by omega, fun b2 ys2 H2 k2 hp2 pm2 hb2 hn2 he2 => ?_⟩
    refine ⟨_, rfl, p, c, 4, N + 32, rfl, hp2, by omega, by decide, by decide, fun d H3 k3 hp3 d0 d1 => ?_⟩
    refine ⟨1, d, rfl, rfl, 1 + d, rfl, b2, _, rfl, SqL.of (k3 _ _ hb2 he2), fun sp hsp => ?_⟩
    refine ⟨by decide, fun f hf => ?_⟩
    refine ⟨by show 3 ≤ sizeLine; decide, fun T hT => ?_⟩
    refine ⟨T, _, rfl, SqT.of upd_same, rfl, _, _, rfl, _, _, rfl, _, _, rfl, rfl, ?_⟩
    -- what stands now
    have l2 : ys2.length = 16 := pm2.length_eq
    obtain ⟨dn, rfl⟩ := Int.eq_ofNat_of_zero_le d0
    have hcut : cutV (ys2.map V.str) none (some (1 + (dn : Int))) = (ys2.take (1 + dn)).map V.str := by
      unfold cutV
      rw [show (1 + (dn : Int)) = ((1 + dn : Nat) : Int) by omega, HT.sIx_nat, HT.sIx_none, List.drop_zero, List.length_map, List.map_take]
      congr 1
      omega
    rw [hcut] at hf hT ⊢
    have hspl : (ys2.take (1 + dn)).length = 1 + dn := by rw [List.length_take]; omega
    have hspT : ∀ z ∈ ys2.take (1 + dn), z ∈ TITLES := fun z hz => pm2.mem_iff.mp (List.mem_of_mem_take hz)
    generalize ys2.take (1 + dn) = spots at hf hT hspl hspT
    have es : Same H3 (upd H3 sp (.lst (spots.map V.str))) := same_new hsp
    have ef := same_new (o := .lst []) hf
    have eT := same_new (o := .tup [V.ref b1, V.ref sp, V.ref f]) hT
    have esf := (es.trans ef).trans eT
    have e1b : H3 b1 = some (.lst (ys1.map V.str)) := k3 _ _ hb1 (k2 _ _ hb1 he1)
    have k03 := KeepX.trans (KeepX.trans k1 k2) k3
    have hc3 := hp3.hasC
    have hp3' := hp3.hasP
    have hcp : c ≠ p := by obtain ⟨ns, t, r, h1, _⟩ := hp3; exact h1
    have A : RA p c b1 sp f H := by
      have n1 : H sp = none := by
        cases q : H sp with
        | none => rfl
        | some o =>
          have hne : sp ≠ p := by rintro rfl; obtain ⟨o, ho⟩ := hp3'; rw [ho] at hsp; cases hsp
          rw [k03 _ _ hne q] at hsp; cases hsp
      have n2 : H f = none := by
        have hf3 : H3 f = none := none_of es hf
        cases q : H f with
        | none => rfl
        | some o =>
          have hne : f ≠ p := by rintro rfl; obtain ⟨o, ho⟩ := hp3'; rw [ho] at hf3; cases hf3
          rw [k03 _ _ hne q] at hf3; cases hf3
      have hf3 : H3 f = none := none_of es hf
      refine ⟨hn1, n1, n2, hb1, ?_, ?_, ?_, ?_, ?_, hcp, ?_, ?_, ?_⟩
      · rintro rfl; obtain ⟨o, ho⟩ := hp3'; rw [ho] at hsp; cases hsp
      · rintro rfl; obtain ⟨o, ho⟩ := hp3'; rw [ho] at hf3; cases hf3
      · rintro rfl; rw [e1b] at hsp; cases hsp
      · rintro rfl; rw [e1b] at hf3; cases hf3
      · rintro rfl; rw [upd_same] at hf; cases hf
      · rintro rfl
        obtain ⟨o, ho⟩ := hp.hasC
        rw [hn1] at ho; cases ho
      · rintro rfl; obtain ⟨o, ho⟩ := hc3; rw [ho] at hsp; cases hsp
      · rintro rfl; obtain ⟨o, ho⟩ := hc3; rw [ho] at hf3; cases hf3
    have S0 : RS long p c b1 sp f spots H (N + 33) [] (upd (upd (upd H3 sp (.lst (spots.map V.str))) f (.lst [])) T (.tup [V.ref b1, V.ref sp, V.ref f])) :=
      ⟨KeepX.trans k03 (Same.keepX esf), hp3.mono esf (Nat.le_refl _), eT _ _ (ef _ _ upd_same), fun u hu => absurd hu List.not_mem_nil, ys1, [], esf _ _ e1b, eT _ _ upd_same, .nil, pm1⟩
    generalize upd (upd (upd H3 sp (.lst (spots.map V.str))) f (.lst [])) T (.tup [V.ref b1, V.ref sp, V.ref f]) = H6 at S0
    refine ⟨_, rfl, _, rfl, 4, 1, rfl, rfl, p, c, 5, N + 33, rfl, S0.pen, by omega, by decide, by decide, fun j H7 k7 hp7 j0 j1 => ?_⟩
    refine ⟨j, rfl, by omega, by omega, ?_⟩
    obtain ⟨jn, rfl⟩ := Int.eq_ofNat_of_zero_le j0
    rw [Int.toNat_natCast]
    have S7 := S0.draw A k7 hp7
    refine for_range (fun i σ H' => (∃ s6 s7 s8 s9 s10 s11 s12, σ = [some (.ref p), some (.int long), some (.int 4), some (.ref b1), some (.ref sp), some (.ref f), s6, s7, s8, s9, s10, s11, s12, none]) ∧ ∃ ts, ts.length ≤ 3 * i ∧ balT ts ∧ RS long p c b1 sp f spots H (N + 34 + 20 * i) ts H') ⟨⟨_, _, _, _, _, _, _, rfl⟩, [], Nat.zero_le _, fun z => rfl, S7⟩ ?_ ?_
    · rintro i σ H8 hi ⟨⟨s6, s7, s8, s9, s10, s11, s12, rfl⟩, ts, htl, hbal, S8⟩
      refine ⟨_, rfl, p, c, 3, N + 34 + 20 * i, rfl, S8.pen, by omega, by decide, by decide, fun r H9 k9 hp9 r0 r1 => ?_⟩
      have S9 := S8.draw A k9 hp9
      obtain ⟨rn, rfl⟩ := Int.eq_ofNat_of_zero_le r0
      refine ⟨1, rn, rfl, rfl, 1 + rn, rfl, by omega, by omega, fun R hR => ?_⟩
      rw [show ((1 : Int) + (rn : Int)).toNat = 1 + rn by omega]
      obtain ⟨ys9, vs9, ht9, hf9, _, _⟩ := id S9.rest
      have hRp : R ≠ p := by obtain ⟨o, ho⟩ := S9.pen.hasP; rintro rfl; rw [ho] at hR; cases hR
      have hRc : R ≠ c := by obtain ⟨o, ho⟩ := S9.pen.hasC; rintro rfl; rw [ho] at hR; cases hR
      have hRt : R ≠ b1 := by rintro rfl; rw [ht9] at hR; cases hR
      have hRf : R ≠ f := by rintro rfl; rw [hf9] at hR; cases hR
      have hRs : R ≠ sp := by rintro rfl; rw [S9.spt] at hR; cases hR
      have hR0 : H R = none := by
        cases q : H R with
        | none => rfl
        | some o => rw [S9.keep _ _ hRp q] at hR; cases hR
      have putR : ∀ (M : Nat) (H' : Hp) (us : List Tr) (ws zs : List V), RS long p c b1 sp f spots H M us H' → H' R = some (.lst ws) → RS long p c b1 sp f spots H M us (upd H' R (.lst zs)) := fun M H' us ws zs S hw => by
        obtain ⟨ys, vs, q1, q2, q3, q4⟩ := S.rest
        exact ⟨KeepX.upd0 S.keep hR0, pen_upd S.pen hRp hRc, by rw [upd_ne hRs.symm]; exact S.spt, S.rows, ys, vs, by rw [upd_ne hRt.symm]; exact q1, by rw [upd_ne hRf.symm]; exact q2, StabL.st (nl_put hw) q3, q4⟩
      have S9R : RS long p c b1 sp f spots H (N + 34 + 20 * i + 1) ts (upd H9 R (.lst [])) := S9.same A (same_new hR)
      refine lc_range (fun j H' => RS long p c b1 sp f spots H (N + 34 + 20 * i + 1 + j) ts H' ∧ ∃ ring : List Str, H' R = some (.lst (ring.map V.str)) ∧ ring.length = j ∧ ∀ z ∈ ring, z ∈ spots) ⟨S9R, [], upd_same, rfl, fun z hz => absurd hz List.not_mem_nil⟩ ?_ ?_
      · rintro j H10 hj ⟨S10, ring, hr10, hrl, hrs⟩
        refine ⟨rfl, ?_⟩
        refine ⟨_, rfl, _, rfl, p, c, sp, _, spots.map V.str, rfl, S10.pen, by omega, A.ps, .inl S10.spt, ?_, by rw [List.length_map]; omega, fun q v H11 k11 hp11 hv => ?_⟩
        · intro e
          have := congrArg List.length e
          rw [List.length_map, hspl] at this
          simp at this
        have S11 := S10.draw A k11 hp11
        have hr11 := k11 _ _ hRp hr10
        rw [List.getElem?_map] at hv
        cases hq : spots[q]? with
        | none => rw [hq] at hv; cases hv
        | some z =>
          rw [hq] at hv
          cases hv
          refine ⟨_, hr11, small1000 (by rw [List.length_map]; omega), putR _ _ _ _ _ S11 hr11, ring ++ [z], ?_, by rw [List.length_append, hrl]; rfl, fun y hy => ?_⟩
          · rw [upd_same, List.map_append]; rfl
          · rcases List.mem_append.mp hy with hy | hy
            · exact hrs y hy
            · rw [List.mem_singleton.mp hy]; exact List.mem_of_getElem? hq
      · rintro H10 ⟨S10, ring, hr10, hrl, hrs⟩
        refine ⟨_, rfl, R, ring.map V.str, rfl, .inl (SqL.of hr10), _, rfl, by omega, by rw [List.length_map]; omega, ?_⟩
        rw [Int.toNat_natCast, List.length_map]
        refine for_range (fun j σ H' => (∃ s8 s9 s10 s11 s12, σ = [some (.ref p), some (.int long), some (.int 4), some (.ref b1), some (.ref sp), some (.ref f), some (.int (0 + (i : Nat))), some (.ref R), s8, s9, s10, s11, s12, none]) ∧ H' R = some (.lst (ring.map V.str)) ∧ ∃ part : List Tr, part.length = j ∧ part.map (·.start) = ring.take j ∧ part.map (·.goal) = (List.range j).map (nextR ring) ∧ RS long p c b1 sp f spots H (N + 34 + 20 * i + 4 + 4 * j) (ts ++ part) H') ⟨⟨_, _, _, _, _, rfl⟩, hr10, [], rfl, rfl, rfl, by rw [List.append_nil]; exact S10.le (by omega)⟩ ?_ ?_
        · rintro j σ H11 hj ⟨⟨s8, s9, s10, s11, s12, rfl⟩, hr11, part, hpl, hps, hpg, S11⟩
          have hj2 : j < ring.length := by simpa using hj
          have hat1 : atI (ring.map V.str) (j : Int) = some (.str ring[j]) := atI_nat (by rw [List.getElem?_map, List.getElem?_eq_getElem hj2]; rfl)
          have hnx : (j + 1) % ring.length < ring.length := Nat.mod_lt _ (by omega)
          have hat2 : atI (ring.map V.str) (((j : Int) + 1) % (ring.map V.str).length) = some (.str (nextR ring j)) := by
            rw [List.length_map, show (((j : Int) + 1) % (ring.length : Int)) = (((j + 1) % ring.length : Nat) : Int) by rw [Int.natCast_emod]; rfl]
            refine atI_nat ?_
            unfold nextR
            rw [List.getElem?_map, List.getD_eq_getElem?_getD, List.getElem?_eq_getElem hnx]
            rfl
          have en : nextR ring j ∈ spots := by
            unfold nextR
            rw [List.getD_eq_getElem?_getD, List.getElem?_eq_getElem hnx]
            exact hrs _ (List.getElem_mem hnx)
          have es : ring[j] ∈ spots := hrs _ (List.getElem_mem hj2)
          refine ⟨_, rfl, _, rfl, R, _, _, _, rfl, rfl, SqL.of hr11, (by rw [Int.zero_add]; exact hat1), ?_⟩
          refine ⟨_, rfl, _, rfl, _, _, rfl, rfl, .inl ⟨_, rfl, ?_⟩⟩
          refine ⟨_, rfl, R, _, rfl, .inl (SqL.of hr11), _, _, rfl, rfl, (by rw [List.length_map]; omega), R, _, _, _, rfl, rfl, SqL.of hr11, (by rw [Int.zero_add]; exact hat2), ?_⟩
          refine ⟨_, _, rfl, ?_⟩
          refine s_word A S11 (by omega) fun st H12 hst k12 S12 => ?_
          have hr12 := k12 _ _ hRp hr11
          refine s_span A S12 (by omega) hl1 hl2 fun n H13 n1 n2 k13 S13 => ?_
          have hr13 := k13 _ _ hRp hr12
          have hlen : ts.length + part.length ≤ 11 := by omega
          refine s_row A S13 (by omega) hl1 hl2 n1 n2 es en hst hspT (by rw [List.length_append]; exact hlen) fun d z H14 k14 S14 => ?_
          refine ⟨⟨_, _, _, _, _, rfl⟩, k14 _ _ hRp hRt hRf hr13, part ++ [⟨st, z, ring[j], d, n, nextR ring j⟩], by rw [List.length_append, hpl]; rfl, ?_, ?_, ?_⟩
          · rw [List.map_append, hps, List.take_succ, List.getElem?_eq_getElem hj2]; rfl
          · rw [List.map_append, hpg, List.range_succ, List.map_append]; rfl
          · rw [← List.append_assoc]
            exact S14.le (by omega)
        · rintro σ H11 ⟨⟨s8, s9, s10, s11, s12, rfl⟩, hr11, part, hpl, hps, hpg, S11⟩
          refine ⟨⟨_, _, _, _, _, _, _, rfl⟩, ts ++ part, by rw [List.length_append]; omega, balT_app hbal ?_, S11.le (by omega)⟩
          rw [hpg, hps, List.take_length]
          exact ring_perm ring
    · rintro σ H8 ⟨⟨s6, s7, s8, s9, s10, s11, s12, rfl⟩, ts, htl, hbal, S8⟩
      obtain ⟨ys, vs, h1, h2, h3, h4⟩ := S8.rest
      refine ⟨_, rfl, ?_⟩
      refine k f vs ts spots H8 S8.keep (S8.le (by omega)).pen h2 h3 A.pf A.f0 (by omega) (fun u hu => S8.rows u hu) ?_ hbal (by omega) hspT
      have hnd : (ts.map (·.name) ++ ys).Nodup := h4.nodup_iff.mpr (by decide +kernel)
      exact (List.nodup_append.mp hnd).1
end
end K22

set_option Elab.async false
set_option linter.all false
set_option pp.maxSteps 400
set_option maxRecDepth 100000
set_option maxHeartbeats 4000000
/-! G6: the law: a row's trip, a table. -/
namespace K22
open PySem PySem.Spec PyProof.Rows L2
section
variable {w : World} {K : PySem.W.Frag} {mg : Str → Option Value} {base : Heap}
def spTripOf (K : PySem.W.Frag) : Sp := fun vs H Q _ => ∃ (v : V) (t : Tr), vs = [v] ∧ rowQ t v H ∧ t.Ok ∧ ∀ u H', Same H H' → tripQ K t u H' → Q u H'
theorem sc_law_trip : FnScope ["_law_row", "_law_word", "_law_title", "_law_home", "_law_when", "_law_span", "_law_target"] ["_law_row"] (defScope s_law_trip) := ⟨rfl, rfl, rfl, by decide +kernel, rfl, by decide +kernel, by decide +kernel⟩
theorem ok_law_trip (G : Fc K mg) : Fn R.prog w K mg base 8 (f_law_trip K) (spTripOf K) := by
  refine fnA G.d_law_trip sc_law_trip (fun _ _ _ _ _ _ us hl => match us, hl with | [_], _ => rfl) (fun vs H Q h => ?_) (fun vs H Q E h => h) (fun cdv A outer s H vs Q hr h => ?_)
  · obtain ⟨v, t, rfl, _⟩ := h
    rfl
  · obtain ⟨v, t, rfl, hv, ok, k⟩ := h
    have nd := sc_law_trip.nd
    refine ⟨_, pss_cons (ps_asg (pv 0) (pg_tup rfl (pgs_cons (pg_name (i := 1) nd rfl (Or.inl rfl)) (pgs_cons (pg_name (i := 2) nd rfl (Or.inl rfl)) (pgs_cons (pg_name (i := 3) nd rfl (Or.inl rfl)) (pgs_cons (pg_name (i := 4) nd rfl (Or.inl rfl)) (pgs_cons (pg_name (i := 5) nd rfl (Or.inl rfl)) (pgs_cons (pg_name (i := 6) nd rfl (Or.inl rfl)) pgs_nil)))))))) <|
      pss_one (ps_ret (pe_ifExp (pt_cmpR op_eq (pv 1) pe_str (nomark _)) (pe_mk (C := cT K false) G.m_Run (ok_mkinit G false) hr G.g_Run (pa_cons (pv 2) (pa_cons (pv 3) (pa_cons (pv 4) (pa_cons (pv 5) (pa_cons (pv 6) pa_nil))))))
        (pe_mk (C := cT K true) G.m_Stay (ok_mkinit G true) hr G.g_Stay (pa_cons (pv 2) (pa_cons (pv 3) (pa_cons (pv 4) (pa_cons (pv 5) pa_nil))))))), ?_⟩
    obtain ⟨T, vs, rfl, hT, hvs⟩ := hv
    have ev := all2_is hvs
    subst ev
    refine ⟨_, rfl, T, _, rfl, SqT.of hT, rfl, _, _, rfl, _, _, rfl, _, _, rfl, _, _, rfl, _, _, rfl, _, _, rfl, rfl, ?_⟩
    have e1 := ev_op (ev_v (i := 1) (σ := [some (.ref T), some (.str t.word), some (.str t.name), some (.str t.start), some (.int t.leaves), some (.int t.takes), some (.str t.goal)]) (H := H) (v := .str t.word) rfl) (ev_k (v := .str "run")) (rp_eq rfl)
    have ew : decide (V.str t.word = V.str "run") = !t.stay := by
      unfold Tr.word
      cases t.stay <;> decide +kernel
    rw [ew] at e1
    have hm := mk_trip (K := K) (H := H) ok
    refine s_ret (Φ := tripQ K t) (ev_if (et_test e1) (fun hs => ?_) (fun hs => ?_)) fun v H2 e2 hv => k v H2 e2 hv
    · have es : t.stay = false := by simpa using hs
      have ea : t.args = [.str t.name, .str t.start, .int t.leaves, .int t.takes, .str t.goal] := by unfold Tr.args; rw [if_neg (by rw [es]; decide)]
      rw [es, ea] at hm
      exact ev_mk (ea_cons (ev_v rfl) (ea_cons (ev_v rfl) (ea_cons (ev_v rfl) (ea_cons (ev_v rfl) (ea_cons (ev_v rfl) ea_nil))))) hm
    · have es : t.stay = true := by simpa using hs
      have ea : t.args = [.str t.name, .str t.start, .int t.leaves, .int t.takes] := by unfold Tr.args; rw [if_pos es]
      rw [es, ea] at hm
      exact ev_mk (ea_cons (ev_v rfl) (ea_cons (ev_v rfl) (ea_cons (ev_v rfl) (ea_cons (ev_v rfl) ea_nil)))) hm
end
end K22

set_option Elab.async false
set_option linter.all false
set_option pp.maxSteps 400
set_option maxRecDepth 100000
set_option maxHeartbeats 4000000
/-! G7: the law: a table of rows. -/
namespace K22
open PySem PySem.Spec PyProof.Rows L2
section
variable {w : World} {K : PySem.W.Frag} {mg : Str → Option Value} {base : Heap}
theorem sp_tripOf {t : Tr} {H : Hp} (ok : t.Ok) : SP (spTripOf K) [rowQ t] H (tripQ K t) := fun H1 e vs hv Q k => by
  obtain ⟨v, ws, rfl, h1, h2⟩ := all2_cons hv
  cases h2
  exact ⟨v, t, rfl, h1, ok, fun u H' e' h' => k u H' e' h'⟩
theorem rows_at {ts : List Tr} {vs : List V} {H : Hp} (h : All2 (rowsQ ts) vs H) {i : Nat} {v : V} (hv : vs[i]? = some v) : rowQ (ts.getD i default) v H ∧ ts[i]? = some (ts.getD i default) := by
  obtain ⟨Φ, h1, h2⟩ := h.get hv
  unfold rowsQ at h1
  rw [List.getElem?_map] at h1
  cases ht : ts[i]? with
  | none => rw [ht] at h1; cases h1
  | some t =>
    rw [ht] at h1
    cases h1
    rw [List.getD_eq_getElem?_getD, ht]
    exact ⟨h2, rfl⟩
theorem sp_tabOf {ts : List Tr} {T : Tb} {H : Hp} {n : Int} (hn : n = T.day) (hp : ts.Perm T.rows) (ok : T.Ok) : SP (spTabOf K) [dayQ K n, lstQ (tripsQ K ts)] H (tabQ K T) := fun H1 e vs hv Q k => by
  subst hn
  obtain ⟨d, ws, rfl, h1, h2⟩ := all2_cons hv
  obtain ⟨l, ws, rfl, ⟨a, xs, rfl, ha, hx⟩, h3⟩ := all2_cons h2
  cases h3
  exact ⟨d, a, xs, ts, T, rfl, h1, ha, hx, hp, ok, fun u H' e' h' => k u H' e' h'⟩
def spLawTab (K : PySem.W.Frag) : Sp := fun vs H Q _ => ∃ (n : Int) (a : Addr) (xs : List V) (ts : List Tr) (T : Tb), vs = [.int n, .ref a] ∧ H a = some (.lst xs) ∧ All2 (rowsQ ts) xs H ∧ ts.length ≤ 31 ∧ (∀ t ∈ ts, t.Ok) ∧ n = T.day ∧ ts.Perm T.rows ∧ T.Ok ∧ ∀ v H', Same H H' → tabQ K T v H' → Q v H'
theorem sc_law_table : FnScope ["_law_long", "_law_rows_here", "_law_row"] ["_law_long", "_law_rows_here"] (defScope s_law_table) := ⟨rfl, rfl, rfl, by decide +kernel, rfl, by decide +kernel, by decide +kernel⟩
theorem ok_law_table (G : Fc K mg) : Fn R.prog w K mg base 9 (f_law_table K) (spLawTab K) := by
  refine fnA G.d_law_table sc_law_table (fun _ _ _ _ _ _ us hl => match us, hl with | [_, _], _ => rfl) (fun vs H Q h => ?_) (fun vs H Q E h => h) (fun cdv A outer s H vs Q hr h => ?_)
  · obtain ⟨n, a, xs, ts, T, rfl, _⟩ := h
    rfl
  · obtain ⟨n, a, xs, ts, T, rfl, ha, hx, hl, hok, hn, hp, ok, k⟩ := h
    have nd := sc_law_table.nd
    refine ⟨_, pss_one (ps_ret (pe_s G.st_Table_of (ok_Table_of G) hr (pe_glob (v := .ref (cTable K)) (by rfl) G.g_Table rfl) (pa_cons (pe_mk G.m_Day (ok_Day_init G) hr G.g_Day (pa_cons (pv 0) pa_nil))
      (pa_cons (pe_lc (te := tF (spTripOf K) (tCons (tVar 2) tNil)) (own := [("_law_row", 2)]) (g := gName 2) (by rfl) nd (pi_list (pv 1)) (blkOk_by (own := [("_law_row", 2)]) (N := ["_law_long", "_law_rows_here", "_law_row"]) (sc := defScope s_law_table) (by decide +kernel))
        (fun _ _ _ _ _ => pg_name (i := 2) nd rfl (Or.inl rfl)) (fun _ _ _ _ _ => pts_nil) (fun _ _ _ _ _ => pe_f (ok_law_trip G) hr G.g_law_trip G.d_law_trip.choose_spec.kp (pa_cons (pv 2) pa_nil))) pa_nil)))), ?_⟩
    have hlen : xs.length = ts.length := by rw [← hx.length]; exact List.length_map _
    have hlc := ev_lcL (K := K) (g := gName 2) (vs := [2]) (tt := tYes) (te := tF (spTripOf K) (tCons (tVar 2) tNil)) (ei_lst (K := K) (te := tVar 1) (ev_v (σ := [some (.int n), some (.ref a), none]) (i := 1) rfl) ha) (fun _ => true) (fun i => tripQ K (ts.getD i default)) (by omega) fun i v hi => by
      obtain ⟨h1, h2⟩ := rows_at hx hi
      exact ⟨[some (.int n), some (.ref a), some v], rfl, fun H' R hR => hR, et_yes, fun _ => ev_f (ea_cons (ev_var (i := 2) rfl h1) ea_nil) (sp_tripOf (hok _ (List.mem_of_getElem? h2)))⟩
    rw [show keptQ (fun _ => true) (fun i => tripQ K (ts.getD i default)) xs.length = tripsQ K ts by
      rw [hlen]
      exact range_map1 ts default (tripQ K)] at hlc
    have hday := ev_mk (ea_cons (ev_v (i := 0) (σ := [some (.int n), some (.ref a), none]) (H := H) (v := .int n) rfl) ea_nil) (mk_day (K := K) (n := n) (by rw [hn]; exact ok.d0) (by rw [hn]; exact ok.d1))
    exact s_ret (ev_s ev_k (ea_cons hday (ea_cons hlc ea_nil)) (sp_tabOf hn hp ok)) fun v H2 e2 hv => k v H2 e2 hv
end
end K22

set_option Elab.async false
set_option linter.all false
set_option pp.maxSteps 400
set_option maxRecDepth 100000
set_option maxHeartbeats 4000000
/-! M3: plain: a trip's key in order; strict orders. -/
namespace K22
open PySem PySem.Spec PyProof.Rows L2
/-! ### padded digits -/
def digs : Nat → Nat → List Nat
  | 0, _ => []
  | k + 1, n => digs k (n / 10) ++ [n % 10 + 48]
theorem digs_len : ∀ k n, (digs k n).length = k
  | 0, _ => rfl
  | k + 1, n => by rw [digs, List.length_append, digs_len k]; rfl
theorem digs_zero : ∀ k, digs k 0 = List.replicate k 48
  | 0 => rfl
  | k + 1 => by rw [digs, List.replicate_succ', Nat.zero_div, digs_zero k]
theorem digitChar_nat : ∀ n, n < 10 → (Nat.digitChar n).toNat = n + 48 := by decide +kernel
theorem digs_num : ∀ k n, n < 10 ^ (k + 1) → digs (k + 1) n = List.replicate (k + 1 - (Nat.toDigits 10 n).length) 48 ++ (Nat.toDigits 10 n).map Char.toNat := by
  intro k
  induction k with
  | zero =>
    intro n h
    rw [Nat.toDigits_of_lt_base (by omega), digs]
    show [] ++ [n % 10 + 48] = [] ++ [(Nat.digitChar n).toNat]
    rw [digitChar_nat n (by omega), Nat.mod_eq_of_lt (by omega)]
  | succ k ih =>
    intro n h
    by_cases h10 : n < 10
    · rw [Nat.toDigits_of_lt_base h10, digs, Nat.div_eq_of_lt h10, digs_zero, Nat.mod_eq_of_lt h10]
      show _ = List.replicate (k + 1) 48 ++ [(Nat.digitChar n).toNat]
      rw [digitChar_nat n h10]
    · have hd : n / 10 < 10 ^ (k + 1) := Nat.div_lt_of_lt_mul (by rw [← Nat.pow_succ']; exact h)
      rw [Nat.toDigits_of_base_le (by decide) (by omega), digs, ih _ hd, List.map_append, List.length_append, List.append_assoc]
      show _ = List.replicate (k + 1 + 1 - ((Nat.toDigits 10 (n / 10)).length + 1)) 48 ++ ((Nat.toDigits 10 (n / 10)).map Char.toNat ++ [(Nat.digitChar (n % 10)).toNat])
      rw [Nat.add_sub_add_right, digitChar_nat _ (Nat.mod_lt _ (by decide))]
theorem app_lt {x y : List Nat} : ∀ {a b : List Nat}, a.length = b.length → (a ++ x < b ++ y ↔ a < b ∨ (a = b ∧ x < y))
  | [], [], _ => by simp
  | [], _ :: _, h => by cases h
  | _ :: _, [], h => by cases h
  | p :: a, q :: b, h => by
    rw [List.cons_append, List.cons_append, List.cons_lt_cons_iff, List.cons_lt_cons_iff, app_lt (Nat.succ.inj h)]
    constructor
    · rintro (h1 | ⟨rfl, h1 | ⟨rfl, h2⟩⟩)
      · exact .inl (.inl h1)
      · exact .inl (.inr ⟨rfl, h1⟩)
      · exact .inr ⟨rfl, h2⟩
    · rintro ((h1 | ⟨rfl, h1⟩) | ⟨h1, h2⟩)
      · exact .inl h1
      · exact .inr ⟨rfl, .inl h1⟩
      · injection h1 with e1 e2
        subst e1 e2
        exact .inr ⟨rfl, .inr ⟨rfl, h2⟩⟩
theorem digs_lt : ∀ k n m, n < 10 ^ k → m < 10 ^ k → (digs k n < digs k m ↔ n < m) := by
  intro k
  induction k with
  | zero => intro n m h1 h2; rw [digs, digs]; simp at h1 h2; subst h1 h2; simp
  | succ k ih =>
    intro n m h1 h2
    have d1 : n / 10 < 10 ^ k := Nat.div_lt_of_lt_mul (by rw [← Nat.pow_succ']; exact h1)
    have d2 : m / 10 < 10 ^ k := Nat.div_lt_of_lt_mul (by rw [← Nat.pow_succ']; exact h2)
    rw [digs, digs, app_lt (by rw [digs_len, digs_len]), ih _ _ d1 d2]
    have hs : ([n % 10 + 48] < [m % 10 + 48]) ↔ n % 10 < m % 10 := by
      rw [List.cons_lt_cons_iff]
      simp
    rw [hs]
    constructor
    · rintro (h | ⟨he, h⟩)
      · omega
      · have q1 := ih _ _ d1 d2
        have q2 := ih _ _ d2 d1
        rw [he] at q1 q2
        have n1 : ¬ n / 10 < m / 10 := fun q => List.lt_irrefl _ (q1.mpr q)
        have n2 : ¬ m / 10 < n / 10 := fun q => List.lt_irrefl _ (q2.mpr q)
        omega
    · intro h
      by_cases q : n / 10 < m / 10
      · exact .inl q
      · have e : n / 10 = m / 10 := by omega
        exact .inr ⟨by rw [e], by omega⟩
theorem pad13_tl (n : Nat) (h : n < 10 ^ 13) : TL.tl (pad13 (n : Int)) = digs 13 n := by
  rw [digs_num 12 n h]
  unfold pad13
  rw [TL.tl_append, TL.tl_ofString]
  congr 1
  show (toString (n : Int) : String).toList.map Char.toNat = _
  have e : (toString (n : Int) : String) = n.repr := rfl
  rw [e, Nat.toList_repr]
theorem key_tl (t : Tr) : TL.tl t.key = TL.tl (pad13 t.leaves) ++ (32 :: TL.tl t.name) := by
  unfold Tr.key catS
  rw [List.foldl_cons, List.foldl_cons, List.foldl_cons, List.foldl_nil, TL.tl_append, TL.tl_append, TL.tl_append]
  have e0 : TL.tl Str.empty = [] := by decide +kernel
  have e1 : TL.tl (" " : Str) = [32] := by decide +kernel
  rw [e0, e1, List.nil_append, List.append_assoc]
  rfl
theorem key_lt {t u : Tr} (ht : t.Ok) (hu : u.Ok) : sLt t.key u.key = Tr.lt t u := by
  obtain ⟨n, hn⟩ := Int.eq_ofNat_of_zero_le ht.l0
  obtain ⟨m, hm⟩ := Int.eq_ofNat_of_zero_le hu.l0
  have h1 := ht.l1
  have h2 := hu.l1
  have b1 : n < 10 ^ 13 := by omega
  have b2 : m < 10 ^ 13 := by omega
  unfold sLt Tr.lt sLt
  show decide (TL.tl t.key < TL.tl u.key) = _
  rw [key_tl, key_tl, hn, hm, pad13_tl n b1, pad13_tl m b2]
  refine Bool.eq_iff_iff.mpr ?_
  rw [decide_eq_true_iff, app_lt (by rw [digs_len, digs_len]), digs_lt 13 n m b1 b2, List.cons_lt_cons_iff, Bool.or_eq_true, Bool.and_eq_true, decide_eq_true_iff, decide_eq_true_iff, decide_eq_true_iff]
  constructor
  · rintro (h | ⟨he, h | ⟨_, h⟩⟩)
    · exact .inl (by omega)
    · exact absurd h (Nat.lt_irrefl _)
    · refine .inr ⟨?_, h⟩
      have q1 := digs_lt 13 n m b1 b2
      have q2 := digs_lt 13 m n b2 b1
      rw [he] at q1 q2
      have n1 : ¬ n < m := fun q => List.lt_irrefl _ (q1.mpr q)
      have n2 : ¬ m < n := fun q => List.lt_irrefl _ (q2.mpr q)
      omega
  · rintro (h | ⟨h, h2⟩)
    · exact .inl (by omega)
    · have e : n = m := by omega
      exact .inr ⟨by rw [e], .inr ⟨rfl, h2⟩⟩
theorem le_of_lt {t u : Tr} (h : Tr.lt t u = true) : Tr.le u t = false := by
  unfold Tr.lt at h
  unfold Tr.le
  rw [Bool.or_eq_true, Bool.and_eq_true, decide_eq_true_iff, decide_eq_true_iff] at h
  rcases h with h | ⟨h1, h2⟩
  · rw [decide_eq_false (by omega), decide_eq_false (by omega)]; rfl
  · rw [decide_eq_false (by omega), h2]; simp
/-! ### lists in a strict order -/
theorem strict_uniq {α : Type} {r : α → α → Prop} (hr : ∀ a b, r a b → r b a → False) : ∀ {xs ys : List α}, xs.Pairwise r → ys.Pairwise r → xs.Perm ys → xs = ys
  | [], ys, _, _, p => (List.nil_perm.mp p).symm
  | x :: xs, [], _, _, p => absurd (List.perm_nil.mp p) (by simp)
  | x :: xs, y :: ys, h1, h2, p => by
    obtain ⟨a1, a2⟩ := List.pairwise_cons.mp h1
    obtain ⟨b1, b2⟩ := List.pairwise_cons.mp h2
    have e : x = y := by
      have hx : x ∈ y :: ys := p.mem_iff.mp (.head _)
      have hy : y ∈ x :: xs := p.mem_iff.mpr (.head _)
      rcases List.mem_cons.mp hx with e | hx
      · exact e
      · rcases List.mem_cons.mp hy with e | hy
        · exact e.symm
        · exact (hr _ _ (a1 y hy) (b1 x hx)).elim
    subst e
    rw [strict_uniq hr a2 b2 ((List.perm_cons x).mp p)]
def sortBy {α : Type} (f : α → Str) (l : List α) : List α := l.mergeSort fun a b => sLe (f a) (f b)
section
variable {α : Type} {f : α → Str} {l : List α}
theorem sortBy_perm : (sortBy f l).Perm l := List.mergeSort_perm l _
theorem sortBy_strict (nd : (l.map f).Nodup) : ((sortBy f l).map f).Pairwise (fun a b => sLt a b = true) :=
  strict_of (List.pairwise_map.mpr (List.pairwise_mergeSort (le := fun a b => sLe (f a) (f b)) (fun a b c h1 h2 => sLe_trans h1 h2) (fun a b => sLe_total _ _) l)) ((sortBy_perm.map f).nodup_iff.mpr nd)
theorem uniq_by {xs ys : List α} (h1 : (xs.map f).Pairwise (fun a b => sLt a b = true)) (h2 : (ys.map f).Pairwise (fun a b => sLt a b = true)) (p : xs.Perm ys) : xs = ys :=
  strict_uniq (r := fun a b => sLt (f a) (f b) = true) (fun a b q1 q2 => by rw [sLt_asymm q1] at q2; cases q2) (List.pairwise_map.mp h1) (List.pairwise_map.mp h2) p
end
/-! ### parts of the day -/
/-- the rows that leave from a to ahead of b, in order -/
def btw (ps : List (Addr × Tr)) (a b : Int) : List (Addr × Tr) := sortBy (·.2.key) (ps.filter (inB a b))
section
variable {ps : List (Addr × Tr)} {a b c : Int}
theorem btw_perm : (btw ps a b).Perm (ps.filter (inB a b)) := sortBy_perm
theorem btw_mem {p : Addr × Tr} : p ∈ btw ps a b ↔ p ∈ ps ∧ a ≤ p.2.leaves ∧ p.2.leaves < b := by
  rw [btw_perm.mem_iff, List.mem_filter]
  unfold inB
  rw [Bool.and_eq_true, decide_eq_true_iff, decide_eq_true_iff]
theorem keys_nd (ok : ∀ p ∈ ps, p.2.Ok) (nd : (pnames ps).Nodup) : (ps.map (·.2.key)).Nodup := by
  unfold pnames trs at nd
  rw [List.map_map] at nd
  have h := List.pairwise_map.mp nd
  refine List.pairwise_map.mpr (h.imp_of_mem fun {x y} hx hy hne e => hne ?_)
  have k1 := key_lt (ok x hx) (ok y hy)
  have k2 := key_lt (ok y hy) (ok x hx)
  rw [e, sLt_irrefl] at k1 k2
  unfold Tr.lt at k1 k2
  have k1 := Bool.or_eq_false_iff.mp k1.symm
  have k2 := Bool.or_eq_false_iff.mp k2.symm
  have l1 := of_decide_eq_false k1.1
  have l2 := of_decide_eq_false k2.1
  have m1 := k1.2
  have m2 := k2.2
  rw [decide_eq_true (by omega), Bool.true_and] at m1 m2
  exact sLt_conn m1 m2
theorem btw_strict (ok : ∀ p ∈ ps, p.2.Ok) (nd : (pnames ps).Nodup) : ((btw ps a b).map (·.2.key)).Pairwise (fun a b => sLt a b = true) :=
  sortBy_strict ((keys_nd ok nd).sublist (List.filter_sublist.map _))
theorem cut_perm (h1 : a ≤ b) (h2 : b ≤ c) : ∀ ps : List (Addr × Tr), (ps.filter (inB a b) ++ ps.filter (inB b c)).Perm (ps.filter (inB a c))
  | [] => .refl _
  | p :: ps => by
    have ih := cut_perm h1 h2 ps
    rw [List.filter_cons, List.filter_cons, List.filter_cons]
    have e1 : inB a b p = (decide (a ≤ p.2.leaves) && decide (p.2.leaves < b)) := rfl
    have e2 : inB b c p = (decide (b ≤ p.2.leaves) && decide (p.2.leaves < c)) := rfl
    have e3 : inB a c p = (decide (a ≤ p.2.leaves) && decide (p.2.leaves < c)) := rfl
    rw [e1, e2, e3]
    by_cases q1 : a ≤ p.2.leaves
    · by_cases q2 : p.2.leaves < b
      · rw [decide_eq_true q1, decide_eq_true q2, decide_eq_false (by omega : ¬ b ≤ p.2.leaves), decide_eq_true (by omega : p.2.leaves < c)]
        exact ih.cons p
      · by_cases q3 : p.2.leaves < c
        · rw [decide_eq_true q1, decide_eq_false q2, decide_eq_true (by omega : b ≤ p.2.leaves), decide_eq_true q3]
          exact List.perm_middle.trans (ih.cons p)
        · rw [decide_eq_true q1, decide_eq_false q2, decide_eq_true (by omega : b ≤ p.2.leaves), decide_eq_false q3]
          exact ih
    · rw [decide_eq_false q1, decide_eq_false (by omega : ¬ b ≤ p.2.leaves)]
      exact ih
theorem btw_cut (ok : ∀ p ∈ ps, p.2.Ok) (nd : (pnames ps).Nodup) (h1 : a ≤ b) (h2 : b ≤ c) : btw ps a b ++ btw ps b c = btw ps a c := by
  refine uniq_by (f := (·.2.key)) ?_ (btw_strict ok nd) ?_
  · rw [List.map_append]
    refine List.pairwise_append.mpr ⟨btw_strict ok nd, btw_strict ok nd, fun x hx y hy => ?_⟩
    obtain ⟨p, hp, rfl⟩ := List.mem_map.mp hx
    obtain ⟨q, hq, rfl⟩ := List.mem_map.mp hy
    obtain ⟨p1, p2, p3⟩ := btw_mem.mp hp
    obtain ⟨q1, q2, q3⟩ := btw_mem.mp hq
    rw [key_lt (ok p p1) (ok q q1)]
    unfold Tr.lt
    rw [decide_eq_true (by omega), Bool.true_or]
  · exact (btw_perm.append btw_perm).trans ((cut_perm h1 h2 ps).trans btw_perm.symm)
theorem btw_all (h : ∀ p ∈ ps, a ≤ p.2.leaves ∧ p.2.leaves < b) : (btw ps a b).Perm ps := by
  refine btw_perm.trans ?_
  rw [List.filter_eq_self.mpr fun p hp => ?_]
  unfold inB
  rw [decide_eq_true (h p hp).1, decide_eq_true (h p hp).2]
  rfl
theorem btw_none : btw ps a a = [] := by
  have : ps.filter (inB a a) = [] := List.filter_eq_nil_iff.mpr fun p _ h => by
    unfold inB at h
    rw [Bool.and_eq_true, decide_eq_true_iff, decide_eq_true_iff] at h
    omega
  exact List.perm_nil.mp (this ▸ btw_perm)
theorem btw_next (ok : ∀ p ∈ ps, p.2.Ok) (nd : (pnames ps).Nodup) {i : Nat} {p q : Addr × Tr} (h1 : (btw ps a b)[i]? = some p) (h2 : (btw ps a b)[i + 1]? = some q) : Tr.lt p.2 q.2 = true := by
  have hs := List.pairwise_map.mp (btw_strict (a := a) (b := b) ok nd)
  obtain ⟨l1, e1⟩ := List.getElem?_eq_some_iff.mp h1
  obtain ⟨l2, e2⟩ := List.getElem?_eq_some_iff.mp h2
  have := List.pairwise_iff_getElem.mp hs i (i + 1) l1 l2 (Nat.lt_succ_self _)
  rw [e1, e2, key_lt (ok p (btw_mem.mp (List.mem_of_getElem? h1)).1) (ok q (btw_mem.mp (List.mem_of_getElem? h2)).1)] at this
  exact this
end
end K22

set_option Elab.async false
set_option linter.all false
set_option pp.maxSteps 400
set_option maxRecDepth 100000
set_option maxHeartbeats 4000000
/-! M4: plain: laws of tables. -/
namespace K22
open PySem PySem.Spec PyProof.Rows L2
theorem tb_ext {T U : Tb} (h1 : T.Ok) (h2 : U.Ok) (hd : T.day = U.day) (p : T.rows.Perm U.rows) : T = U := by
  obtain ⟨n, xs⟩ := T
  obtain ⟨m, ys⟩ := U
  cases (show n = m from hd)
  rw [uniq_by (f := fun t : Tr => t.name) (xs := xs) (ys := ys) h1.srt h2.srt p]
/-- rows as they are given -/
structure RowsOk (n : Int) (ts : List Tr) : Prop where
  tr : ∀ t ∈ ts, t.Ok
  lv : ∀ t ∈ ts, t.leaves < n
  nd : (ts.map (·.name)).Nodup
  len : ts.length ≤ 31
  bal : balT ts
  few : (places ts).length ≤ 8
def mkT (n : Int) (ts : List Tr) : Tb := ⟨n, sortBy (fun t : Tr => t.name) ts⟩
theorem mkT_perm {n : Int} {ts : List Tr} : ts.Perm (mkT n ts).rows := sortBy_perm.symm
theorem balT_perm {ts us : List Tr} (h : balT ts) (p : ts.Perm us) : balT us := fun z => by
  rw [← (p.filter _).length_eq, ← (p.filter _).length_eq]
  exact h z
theorem mkT_ok {n : Int} {ts : List Tr} (d0 : 1 ≤ n) (d1 : n ≤ 1000000000000) (h : RowsOk n ts) : (mkT n ts).Ok where
  d0 := d0
  d1 := d1
  tr := fun t ht => h.tr t (mkT_perm.mem_iff.mpr ht)
  lv := fun t ht => h.lv t (mkT_perm.mem_iff.mpr ht)
  srt := sortBy_strict h.nd
  len := by rw [← mkT_perm.length_eq]; exact h.len
  bal := balT_perm h.bal mkT_perm
  few := by rw [← places_perm mkT_perm]; exact h.few
theorem Tb.Ok.rowsOk {T : Tb} (h : T.Ok) : RowsOk T.day T.rows := ⟨h.tr, h.lv, strict_nd h.srt, h.len, h.bal, h.few⟩
theorem RowsOk.perm {n : Int} {ts us : List Tr} (h : RowsOk n ts) (p : ts.Perm us) : RowsOk n us :=
  ⟨fun t ht => h.tr t (p.mem_iff.mpr ht), fun t ht => h.lv t (p.mem_iff.mpr ht), (p.map _).nodup_iff.mp h.nd, by rw [← p.length_eq]; exact h.len, balT_perm h.bal p, by rw [← places_perm p]; exact h.few⟩
theorem mkT_self {T : Tb} (h : T.Ok) {ts : List Tr} (p : ts.Perm T.rows) : mkT T.day ts = T := tb_ext (mkT_ok h.d0 h.d1 (h.rowsOk.perm p.symm)) h rfl (mkT_perm.symm.trans p)
/-! ### the rows changed, their names and places kept -/
section
variable {T : Tb} {f : Tr → Tr} {n : Int}
theorem ends_map (hs : ∀ t, (f t).start = t.start) (hg : ∀ t, (f t).goal = t.goal) (ts : List Tr) : ends (ts.map f) = ends ts := by
  unfold ends
  rw [List.flatMap_map]
  congr 1
  funext t
  rw [hs, hg]
theorem Tb.Ok.map (h : T.Ok) (d0 : 1 ≤ n) (d1 : n ≤ 1000000000000) (hn : ∀ t, (f t).name = t.name) (hs : ∀ t, (f t).start = t.start) (hg : ∀ t, (f t).goal = t.goal) (ht : ∀ t ∈ T.rows, (f t).Ok ∧ (f t).leaves < n) : Tb.Ok ⟨n, T.rows.map f⟩ where
  d0 := d0
  d1 := d1
  tr := fun t h => by
    obtain ⟨u, hu, rfl⟩ := List.mem_map.mp h
    exact (ht u hu).1
  lv := fun t h => by
    obtain ⟨u, hu, rfl⟩ := List.mem_map.mp h
    exact (ht u hu).2
  srt := by
    have e : Tb.names ⟨n, T.rows.map f⟩ = T.names := by
      unfold Tb.names
      rw [List.map_map]
      exact List.map_congr_left fun t _ => hn t
    rw [e]
    exact h.srt
  len := by
    show (T.rows.map f).length ≤ 31
    rw [List.length_map]
    exact h.len
  bal := fun z => by
    show ((T.rows.map f).filter _).length = ((T.rows.map f).filter _).length
    rw [List.filter_map, List.filter_map, List.length_map, List.length_map]
    have e1 : ((fun t => decide (t.goal = z)) ∘ f) = fun t : Tr => decide (t.goal = z) := by funext t; show decide ((f t).goal = z) = _; rw [hg]
    have e2 : ((fun t => decide (t.start = z)) ∘ f) = fun t : Tr => decide (t.start = z) := by funext t; show decide ((f t).start = z) = _; rw [hs]
    rw [e1, e2]
    exact h.bal z
  few := by
    show (places (T.rows.map f)).length ≤ 8
    unfold places
    rw [ends_map hs hg]
    exact h.few
end
/-! ### moved -/
def Tb.mv (T : Tb) (k : Int) (zs : List Str) : Tb := ⟨T.day, T.rows.map (mvT T.day k zs)⟩
section
variable {T : Tb} {n k a b : Int} {zs ys : List Str} {t : Tr}
theorem mvT_name (t : Tr) : (mvT n k zs t).name = t.name := by unfold mvT; split <;> rfl
theorem mvT_start (t : Tr) : (mvT n k zs t).start = t.start := by unfold mvT; split <;> rfl
theorem mvT_goal (t : Tr) : (mvT n k zs t).goal = t.goal := by unfold mvT; split <;> rfl
theorem mvT_ok (h : t.Ok) (hn : 1 ≤ n) (hn2 : n ≤ 1000000000000) (hl : t.leaves < n) : (mvT n k zs t).Ok ∧ (mvT n k zs t).leaves < n := by
  unfold mvT
  have m0 := Int.emod_nonneg (t.leaves + k) (b := n) (by omega)
  have m1 := Int.emod_lt_of_pos (t.leaves + k) (b := n) (by omega)
  split
  · exact ⟨⟨h.name, h.start, h.goal, m0, (by show (t.leaves + k) % n ≤ _; omega), h.t0, h.t1, h.loop⟩, m1⟩
  · exact ⟨h, hl⟩
theorem Tb.Ok.mv (h : T.Ok) : (T.mv k zs).Ok := h.map h.d0 h.d1 mvT_name mvT_start mvT_goal fun t ht => mvT_ok (h.tr t ht) h.d0 h.d1 (h.lv t ht)
theorem mv_names : (T.mv k zs).names = T.names := by
  unfold Tb.names Tb.mv
  rw [List.map_map]
  exact List.map_congr_left fun t _ => mvT_name t
theorem mv_places : places (T.mv k zs).rows = places T.rows := by
  unfold places Tb.mv
  rw [ends_map mvT_start mvT_goal]
theorem mv_ext {U : Tb} (hd : T.day = U.day) (h : T.rows = U.rows) : T = U := by
  obtain ⟨n, xs⟩ := T
  obtain ⟨m, ys⟩ := U
  cases (show n = m from hd)
  cases (show xs = ys from h)
  rfl
theorem mv_mv : (T.mv a zs).mv b zs = T.mv (a + b) zs := by
  refine mv_ext rfl ?_
  show (T.rows.map (mvT T.day a zs)).map (mvT T.day b zs) = T.rows.map (mvT T.day (a + b) zs)
  rw [List.map_map]
  refine List.map_congr_left fun t _ => ?_
  show mvT T.day b zs (mvT T.day a zs t) = mvT T.day (a + b) zs t
  by_cases h : zs = [] ∨ t.name ∈ zs
  · have e1 : mvT T.day a zs t = t.timed ((t.leaves + a) % T.day) t.takes := if_pos h
    have e2 : mvT T.day (a + b) zs t = t.timed ((t.leaves + (a + b)) % T.day) t.takes := if_pos h
    have e3 : mvT T.day b zs (t.timed ((t.leaves + a) % T.day) t.takes) = t.timed (((t.leaves + a) % T.day + b) % T.day) t.takes := if_pos h
    rw [e1, e2, e3, Int.emod_add_emod, Int.add_assoc]
  · have e1 : mvT T.day a zs t = t := if_neg h
    have e2 : mvT T.day (a + b) zs t = t := if_neg h
    have e3 : mvT T.day b zs t = t := if_neg h
    rw [e1, e2, e3]
theorem mv_same (h : T.Ok) (hk : ∀ l, 0 ≤ l → l < T.day → (l + k) % T.day = l) : T.mv k zs = T := by
  refine mv_ext rfl ?_
  show T.rows.map (mvT T.day k zs) = T.rows
  rw [List.map_congr_left (g := id) fun t ht => ?_, List.map_id]
  show mvT T.day k zs t = t
  unfold mvT
  split
  · rw [hk _ (h.tr t ht).l0 (h.lv t ht)]; rfl
  · rfl
theorem mv_zero (h : T.Ok) : T.mv 0 zs = T := mv_same h fun l h0 h1 => by rw [Int.add_zero]; exact Int.emod_eq_of_lt h0 h1
theorem mv_day (h : T.Ok) : T.mv T.day zs = T := mv_same h fun l h0 h1 => by rw [Int.add_emod_right]; exact Int.emod_eq_of_lt h0 h1
theorem mv_add_day : T.mv (k + T.day) zs = T.mv k zs := by
  refine mv_ext rfl ?_
  show T.rows.map (mvT T.day (k + T.day) zs) = T.rows.map (mvT T.day k zs)
  refine List.map_congr_left fun t _ => ?_
  unfold mvT
  rw [← Int.add_assoc, Int.add_emod_right]
theorem mv_back (h : T.Ok) : (T.mv k zs).mv (0 - k) zs = T := by
  rw [mv_mv, show k + (0 - k) = 0 by omega, mv_zero h]
theorem mv_cong (h : ∀ z, (zs = [] ∨ z ∈ zs) ↔ (ys = [] ∨ z ∈ ys)) : T.mv k zs = T.mv k ys := by
  refine mv_ext rfl ?_
  show T.rows.map (mvT T.day k zs) = T.rows.map (mvT T.day k ys)
  refine List.map_congr_left fun t _ => ?_
  unfold mvT
  by_cases q : zs = [] ∨ t.name ∈ zs
  · rw [if_pos q, if_pos ((h _).mp q)]
  · rw [if_neg q, if_neg fun r => q ((h _).mpr r)]
theorem mv_swap {x y : Str} : T.mv k [x, y] = T.mv k [y, x] := mv_cong fun z => by simp [or_comm]
theorem mv_dup {x : Str} : T.mv k [x, x] = T.mv k [x] := mv_cong fun z => by simp
theorem mv_two {x y : Str} (hxy : x ≠ y) : (T.mv k [x]).mv k [y] = T.mv k [x, y] := by
  refine mv_ext rfl ?_
  show (T.rows.map (mvT T.day k [x])).map (mvT T.day k [y]) = T.rows.map (mvT T.day k [x, y])
  rw [List.map_map]
  refine List.map_congr_left fun t _ => ?_
  show mvT T.day k [y] (mvT T.day k [x] t) = mvT T.day k [x, y] t
  have n1 : ∀ {z : Str}, ¬ (([z] : List Str) = [] ∨ t.name ∈ [z]) ↔ t.name ≠ z := by intro z; simp
  by_cases hx : t.name = x
  · have e1 : mvT T.day k [x] t = t.timed ((t.leaves + k) % T.day) t.takes := if_pos (.inr (by rw [hx]; exact .head _))
    have e2 : mvT T.day k [x, y] t = t.timed ((t.leaves + k) % T.day) t.takes := if_pos (.inr (by rw [hx]; exact .head _))
    rw [e1, e2]
    exact if_neg (by show ¬ (_ ∨ t.name ∈ [y]); rw [n1, hx]; exact hxy)
  · have e1 : mvT T.day k [x] t = t := if_neg (n1.mpr hx)
    rw [e1]
    unfold mvT
    by_cases hy : t.name = y
    · rw [if_pos (.inr (by rw [hy]; exact .head _)), if_pos (.inr (by rw [hy]; exact .tail _ (.head _)))]
    · rw [if_neg (n1.mpr hy), if_neg (by simp [hx, hy])]
theorem mv_at {x : Str} (hx : t.name = x) : (mvT n k [x] t).leaves = (mvT n k [] t).leaves := by
  have e1 : mvT n k [x] t = t.timed ((t.leaves + k) % n) t.takes := if_pos (.inr (by rw [hx]; exact .head _))
  have e2 : mvT n k [] t = t.timed ((t.leaves + k) % n) t.takes := if_pos (.inl rfl)
  rw [e1, e2]
end
/-! ### scaled -/
def Tb.sc (T : Tb) (k : Int) : Tb := ⟨T.day * k, T.rows.map (scT k)⟩
section
variable {T : Tb} {n k a b : Int}
theorem Tb.Ok.sc (h : T.Ok) (hk : 1 ≤ k) (hd : T.day * k ≤ 1000000000000) (ht : ∀ t ∈ T.rows, t.takes * k ≤ 1000000000000) : (T.sc k).Ok := by
  have hd0 := h.d0
  have hm := Int.mul_le_mul hd0 hk (by decide) (by omega)
  refine h.map (by omega) hd (fun _ => rfl) (fun _ => rfl) (fun _ => rfl) fun t h1 => ?_
  have o := h.tr t h1
  have l := h.lv t h1
  have m0 : 0 ≤ t.leaves * k := Int.mul_nonneg o.l0 (by omega)
  have m1 : t.leaves * k < T.day * k := Int.mul_lt_mul_of_pos_right l (by omega)
  have m2 := Int.mul_le_mul o.t0 hk (by decide) (Int.le_trans (by decide) o.t0)
  exact ⟨⟨o.name, o.start, o.goal, m0, (by show t.leaves * k ≤ _; omega), (by show 1 ≤ t.takes * k; omega), ht t h1, o.loop⟩, m1⟩
theorem sc_names : (T.sc k).names = T.names := by
  unfold Tb.names Tb.sc
  rw [List.map_map]
  rfl
theorem sc_sc : (T.sc a).sc b = T.sc (a * b) := by
  unfold Tb.sc
  rw [List.map_map, Int.mul_assoc]
  congr 1
  refine List.map_congr_left fun t _ => ?_
  show scT b (scT a t) = scT (a * b) t
  unfold scT Tr.timed
  rw [← Int.mul_assoc, ← Int.mul_assoc]
theorem sc_one : T.sc 1 = T := by
  refine mv_ext (Int.mul_one _) ?_
  show T.rows.map (scT 1) = T.rows
  rw [List.map_congr_left (g := id) fun t ht => ?_, List.map_id]
  show scT 1 t = t
  unfold scT
  rw [Int.mul_one, Int.mul_one]
  rfl
theorem sc_mv (hk : 0 < k) : (T.mv a []).sc k = (T.sc k).mv (a * k) [] := by
  refine mv_ext rfl ?_
  show (T.rows.map (mvT T.day a [])).map (scT k) = (T.rows.map (scT k)).map (mvT (T.day * k) (a * k) [])
  rw [List.map_map, List.map_map]
  refine List.map_congr_left fun t _ => ?_
  show scT k (mvT T.day a [] t) = mvT (T.day * k) (a * k) [] (scT k t)
  have e1 : mvT T.day a [] t = t.timed ((t.leaves + a) % T.day) t.takes := if_pos (.inl rfl)
  have e2 : mvT (T.day * k) (a * k) [] (scT k t) = (scT k t).timed ((t.leaves * k + a * k) % (T.day * k)) (t.takes * k) := if_pos (.inl rfl)
  rw [e1, e2, ← Int.add_mul, Int.mul_comm (t.leaves + a), Int.mul_comm T.day, Int.mul_emod_mul_of_pos _ _ hk, Int.mul_comm k]
  rfl
end
end K22

set_option Elab.async false
set_option linter.all false
set_option pp.maxSteps 400
set_option maxRecDepth 100000
set_option maxHeartbeats 4000000
/-! G8: tables as values. -/
namespace K22
open PySem PySem.Spec PyProof.Rows L2
/-- str(o), the method found by the class -/
theorem call_strM {X : Cx} {n : Nat} (hr : Room n X.A) : CallR X (.type "str") (fun vs H Q => ∃ a C dx fs f k sp, vs = [.ref a] ∧ H a = some (.ins C dx fs) ∧ Meth X.K C "__str__" f ∧ FnX X k f sp ∧ k + 2 ≤ n ∧ sp [.ref a] H (fun z H' => ∃ y : Str, z = .str y ∧ Q (.str y) H') E0) := by
  intro pins s σ H us vs Q I r hq
  obtain ⟨a, C, dx, fs, f, k, sp, rfl, ha, M, F, hk, q⟩ := hq
  exact call_strO F hr hk pins s σ H _ _ Q I r ⟨a, C, dx, fs, rfl, ha, M, q⟩
def rStrM (X : Cx) (n : Nat) : List V → Hp → VK → Prop := fun vs H Q => ∃ a C dx fs f k sp, vs = [.ref a] ∧ H a = some (.ins C dx fs) ∧ Meth X.K C "__str__" f ∧ FnX X k f sp ∧ k + 2 ≤ n ∧ sp [.ref a] H (fun z H' => ∃ y : Str, z = .str y ∧ Q (.str y) H') E0
def rNeL (K : PySem.W.Frag) : R2 := fun x y H Q => ∃ p q, ∃ zs : List Addr, x = .ref p ∧ y = .ref q ∧ ((SqL K H p (zs.map V.ref) ∧ SqL K H q (zs.map V.ref)) ∨ (SqT K H p (zs.map V.ref) ∧ SqT K H q (zs.map V.ref))) ∧ Q (.bl false) H
def rAddO (K : PySem.W.Frag) (f : Addr) (m : Str) (sp : Sp) : R2 := fun x y H Q => ∃ a C dx fs b dy gs, x = .ref a ∧ y = .ref b ∧ H a = some (.ins C dx fs) ∧ H b = some (.ins C dy gs) ∧ Meth K C m f ∧ PySem.W.selfFirst K C = true ∧ sp [.ref a, .ref b] H Q E0
def rLenO (K : PySem.W.Frag) (f : Addr) (sp : Sp) : List V → Hp → VK → Prop := fun vs H Q => ∃ a C dx fs, vs = [.ref a] ∧ H a = some (.ins C dx fs) ∧ Meth K C "__len__" f ∧ sp [.ref a] H (fun z H' => ∃ i : Int, z = .int i ∧ (0 ≤ i ∧ i < 2 ^ 63) ∧ Q (.int i) H') E0
section
variable {w : World} {K : PySem.W.Frag} {mg : Str → Option Value} {base : Heap} {H : Hp} {σ : L2.St} {te : TE} {T U : Tb}
theorem ev_Tday (G : Fc K mg) (h : EvP te σ H (tabQ K T)) : EvP (tFld K te "day") σ H (dayQ K T.day) := fun H1 e Q k => h H1 e _ fun v H2 e2 ⟨x, hv, dx, d, nm, pl, rw, h1, h2, h3, h4, h5⟩ => ⟨x, _, dx, _, d, hv, h1, G.c_Table, G.n_Table_day, rfl, k _ H2 e2 h2⟩
theorem ev_Tnames (G : Fc K mg) (h : EvP te σ H (tabQ K T)) : EvP (tFld K te "names") σ H (tupF (txQ T.names)) := fun H1 e Q k => h H1 e _ fun v H2 e2 ⟨x, hv, dx, d, nm, pl, rw, h1, h2, h3, h4, h5⟩ => ⟨x, _, dx, _, nm, hv, h1, G.c_Table, G.n_Table_names, rfl, k _ H2 e2 h3⟩
theorem ev_Tplaces (G : Fc K mg) (h : EvP te σ H (tabQ K T)) : EvP (tFld K te "places") σ H (tupQ (txQ (places T.rows))) := fun H1 e Q k => h H1 e _ fun v H2 e2 ⟨x, hv, dx, d, nm, pl, rw, h1, h2, h3, h4, h5⟩ => ⟨x, _, dx, _, pl, hv, h1, G.c_Table, G.n_Table_places, rfl, k _ H2 e2 h4⟩
theorem ev_Dlen (G : Fc K mg) {n : Int} (h : EvP te σ H (dayQ K n)) : EvP (tFld K te "length") σ H (is (.int n)) := ev_fld h G.c_Day G.n_Day_length rfl
theorem Tb.Ok.pn {T : Tb} {n : Int} {ps : List (Addr × Tr)} (e : T = ⟨n, trs ps⟩) : pnames ps = T.names := by subst e; rfl
theorem Tb.Ok.nd (h : T.Ok) : T.names.Nodup := strict_nd h.srt
/-- two that are the same -/
theorem sp_sameTab (ok : T.Ok) {x y : V} {Q : VK} {H1 : Hp} (hx : tabQ K T x H1) (hy : tabQ K T y H1) (k : ∀ H', Same H1 H' → Q (.bl true) H') : spTabEq K [x, y] H1 Q E0 := by
  obtain ⟨ps, e1, r1⟩ := tab_R hx
  obtain ⟨qs, e2, r2⟩ := tab_R hy
  have e3 : trs ps = trs qs := by rw [e1] at e2; injection e2
  refine ⟨x, y, T.day, ps, qs, rfl, r1, r2, e3, fun t ht => ok.tr t ?_, k⟩
  rw [e1]
  exact ht
theorem tabQ_ins {v : V} (h : tabQ K T v H) : ∃ a dx fs, v = .ref a ∧ H a = some (.ins (cTable K) dx fs) := by
  obtain ⟨x, rfl, dx, d, nm, pl, rw, h1, _⟩ := h
  exact ⟨x, dx, _, rfl, h1⟩
theorem rp_neTab (G : Fc K mg) (ok : T.Ok) : RP (rNeO K (f_Table_eq K) (spTabEq K)) (tabQ K T) (tabQ K T) H (is (.bl false)) := fun H1 e x y hx hy Q k => by
  obtain ⟨a, dx, fs, rfl, ha⟩ := tabQ_ins hx
  obtain ⟨b, dy, gs, rfl, hb⟩ := tabQ_ins hy
  exact ⟨a, _, dx, fs, b, _, dy, gs, rfl, rfl, ha, hb, G.h_Table_eq, G.ne_Table, G.nf_Table_Table, sp_sameTab ok hx hy fun H' e' => ⟨true, rfl, k _ H' e' rfl⟩⟩
theorem rp_eqTab (G : Fc K mg) (ok : T.Ok) : RP (rOwn2 K (f_Table_eq K) "__eq__" (spTabEq K)) (tabQ K T) (tabQ K T) H (is (.bl true)) := fun H1 e x y hx hy Q k => by
  obtain ⟨a, dx, fs, rfl, ha⟩ := tabQ_ins hx
  obtain ⟨b, dy, gs, rfl, hb⟩ := tabQ_ins hy
  exact ⟨a, _, dx, fs, b, _, dy, gs, rfl, rfl, ha, hb, G.h_Table_eq, G.nf_Table_Table, sp_sameTab ok hx hy fun H' e' => k _ H' e' rfl⟩
theorem cp_lenTab (G : Fc K mg) (ok : T.Ok) : CP (rLenO K (f_Table_len K) (spTabLen K)) [tabQ K T] H (is (.int T.rows.length)) := fun H1 e vs hv Q k => by
  obtain ⟨v, ws, rfl, h1, h2⟩ := all2_cons hv
  cases h2
  obtain ⟨a, dx, fs, rfl, ha⟩ := tabQ_ins h1
  obtain ⟨ps, e1, r1⟩ := tab_R h1
  have hl : ps.length = T.rows.length := by rw [e1]; exact trs_len.symm
  have h31 := ok.len
  exact ⟨a, _, dx, fs, rfl, ha, G.h_Table_len, _, T.day, ps, rfl, r1, fun H' e' => ⟨_, rfl, ⟨by omega, by omega⟩, by rw [hl]; exact k _ H' e' rfl⟩⟩
theorem rp_inT2 (G : Fc K mg) {neg : Bool} {z : Str} : RP (rInO K (f_Table_contains K) (spIn K) neg) (is (.str z)) (tabQ K T) H (is (.bl (neg != decide (z ∈ T.names)))) := fun H1 e x y hx hy Q k => by
  obtain ⟨ps, e1, r1⟩ := tab_R hy
  have := rp_inTab G (neg := neg) (z := z) (n := T.day) (ps := ps) (H := H1) H1 (Same.refl _) x y hx r1 Q
  rw [Tb.Ok.pn e1] at this
  exact this k
theorem rp_addTab (G : Fc K mg) (hd : T.day = U.day) (ok : (mkT T.day (T.rows ++ U.rows)).Ok) : RP (rAddO K (f_Table_add K) "__add__" (spTabAdd K)) (tabQ K T) (tabQ K U) H (tabQ K (mkT T.day (T.rows ++ U.rows))) := fun H1 e x y hx hy Q k => by
  obtain ⟨a, dx, fs, rfl, ha⟩ := tabQ_ins hx
  obtain ⟨b, dy, gs, rfl, hb⟩ := tabQ_ins hy
  obtain ⟨ps, e1, r1⟩ := tab_R hx
  obtain ⟨qs, e2, r2⟩ := tab_R hy
  refine ⟨a, _, dx, fs, b, dy, gs, rfl, rfl, ha, hb, G.h_Table_add, G.sf_Table, _, _, T.day, ps, qs, mkT T.day (T.rows ++ U.rows), rfl, r1, by rw [hd]; exact r2, rfl, ?_, ok, k⟩
  rw [show trs ps = T.rows by rw [e1], show trs qs = U.rows by rw [e2]]
  exact mkT_perm
end
section
variable {w : World} {X : Cx} {n : Nat} {mg : Str → Option Value} {H : Hp} {T : Tb}
theorem mp_moved {k : Int} {zs : List Str} (G : Fc X.K mg) (hX : X.prog = R.prog ∧ X.w = w ∧ X.mg = mg) (ok : T.Ok) (hz : ∀ z ∈ zs, z ∈ T.names) (hl : zs.length ≤ 60 := by exact Nat.le_of_ble_eq_true rfl) (hk : 9 ≤ n := by decide) : MethP X n "moved" (tabQ X.K T) (is (.int k) :: txQ zs) H (tabQ X.K (T.mv k zs)) := by
  obtain ⟨e1, e2, e3⟩ := hX
  intro H1 e x hx
  obtain ⟨ps, eT, hr⟩ := tab_R hx
  obtain ⟨a, dx, fs, rfl, ha⟩ := tabQ_ins hx
  have hps : trs ps = T.rows := by rw [eT]
  have hok := ok.mv (k := k) (zs := zs)
  refine ⟨a, _, dx, fs, _, 9, _, rfl, ha, G.c_Table, G.h_Table_moved, ?_, by unfold FnX; rw [e1, e2, e3]; exact ok_Table_moved G, hk, fun H2 e2 vs hv Q kk => ?_⟩
  · obtain ⟨x, hv, dx, d, nm, pl, rw, h1, _⟩ := hx
    cases hv
    rw [ha] at h1
    cases h1
    rfl
  · obtain ⟨v, ws, rfl, h1, h2⟩ := all2_cons hv
    cases h1
    have := txQ_all h2
    subst this
    refine ⟨[.ref a, .int k], zs.map V.str, rfl, rfl, Nat.le_trans (m := 60) (by rw [List.length_map]; exact hl) (by decide), fun p hp => ?_⟩
    have ep := same_new (o := .tup (zs.map V.str)) hp
    refine ⟨.ref a, T.day, k, ps, p, zs, T.mv k zs, rfl, Mono.mono (e2.trans ep) hr, by rw [← trs_len, hps]; exact ok.len, ok.d0, upd_same, fun z h => by rw [Tb.Ok.pn eT]; exact hz z h, rfl, fun t ht => ?_, ?_, hok, fun v H' e' ht => kk v H' (ep.trans e') ht⟩
    · rw [hps] at ht
      exact (mvT_ok (ok.tr t ht) ok.d0 ok.d1 (ok.lv t ht)).1
    · rw [hps]
      exact List.Perm.refl _
theorem mp_scaled {k : Int} (G : Fc X.K mg) (hX : X.prog = R.prog ∧ X.w = w ∧ X.mg = mg) (ok : T.Ok) (ok2 : (T.sc k).Ok) (h1 : 1 ≤ k) (h2 : k ≤ 1000000000000) (hk : 9 ≤ n := by decide) : MethP X n "scaled" (tabQ X.K T) [is (.int k)] H (tabQ X.K (T.sc k)) := by
  obtain ⟨e1, e2, e3⟩ := hX
  intro H1 e x hx
  obtain ⟨ps, eT, hr⟩ := tab_R hx
  obtain ⟨a, dx, fs, rfl, ha⟩ := tabQ_ins hx
  have hps : trs ps = T.rows := by rw [eT]
  refine ⟨a, _, dx, fs, _, 9, _, rfl, ha, G.c_Table, G.h_Table_scaled, ?_, by unfold FnX; rw [e1, e2, e3]; exact ok_Table_scaled G, hk, fun H2 e2 vs hv Q kk => ?_⟩
  · obtain ⟨x, hv, dx, d, nm, pl, rw, h1, _⟩ := hx
    cases hv
    rw [ha] at h1
    cases h1
    rfl
  · have ev := all2_is (xs := [.int k]) hv
    subst ev
    refine ⟨.ref a, T.day, k, ps, T.sc k, rfl, Mono.mono e2 hr, by rw [← trs_len, hps]; exact ok.len, ok.d0, h1, h2, ok2.d1, rfl, fun t ht => ok2.tr _ ?_, ?_, ok2, fun v H' e' ht => kk v H' e' ht⟩
    · rw [hps] at ht
      exact List.mem_map_of_mem ht
    · rw [hps]
      exact List.Perm.refl _
theorem mp_withT {As : List VQ} {ts : List Tr} (G : Fc X.K mg) (hX : X.prog = R.prog ∧ X.w = w ∧ X.mg = mg) (hA : AsT X.K As ts) (ok : T.Ok) (ok2 : (mkT T.day (T.rows ++ ts)).Ok) (hk : 6 ≤ n := by decide) : MethP X n "with_trips" (tabQ X.K T) As H (tabQ X.K (mkT T.day (T.rows ++ ts))) := by
  obtain ⟨e1, e2, e3⟩ := hX
  intro H1 e x hx
  obtain ⟨ps, eT, hr⟩ := tab_R hx
  obtain ⟨a, dx, fs, rfl, ha⟩ := tabQ_ins hx
  have hps : trs ps = T.rows := by rw [eT]
  refine ⟨a, _, dx, fs, _, 6, _, rfl, ha, G.c_Table, G.h_Table_with_trips, ?_, by unfold FnX; rw [e1, e2, e3]; exact ok_Table_with_trips G, hk, fun H2 e2 vs hv Q kk => ?_⟩
  · obtain ⟨x, hv, dx, d, nm, pl, rw, h1, _⟩ := hx
    cases hv
    rw [ha] at h1
    cases h1
    rfl
  · have hv2 := hA hv
    have hl := trips_len hv2
    have h31 := ok2.len
    rw [← mkT_perm.length_eq, List.length_append] at h31
    refine ⟨[.ref a], vs, rfl, rfl, Nat.le_trans (m := 60) (by omega) (by decide), fun p hp => ?_⟩
    have ep := same_new (o := .tup vs) hp
    refine ⟨.ref a, T.day, ps, p, vs, ts, mkT T.day (T.rows ++ ts), rfl, Mono.mono (e2.trans ep) hr, upd_same, MonoL.mono ep hv2, rfl, ?_, ok2, fun v H' e' ht => kk v H' (ep.trans e') ht⟩
    rw [hps]
    exact mkT_perm
theorem mp_without {zs : List Str} (G : Fc X.K mg) (hX : X.prog = R.prog ∧ X.w = w ∧ X.mg = mg) (ok : T.Ok) (hz : ∀ z ∈ zs, z ∈ T.names) (hl : zs.length ≤ 60) (ok2 : (mkT T.day (T.rows.filter fun t => !decide (t.name ∈ zs))).Ok) (hk : 6 ≤ n := by decide) : MethP X n "without" (tabQ X.K T) (txQ zs) H (tabQ X.K (mkT T.day (T.rows.filter fun t => !decide (t.name ∈ zs)))) := by
  obtain ⟨e1, e2, e3⟩ := hX
  intro H1 e x hx
  obtain ⟨ps, eT, hr⟩ := tab_R hx
  obtain ⟨a, dx, fs, rfl, ha⟩ := tabQ_ins hx
  have hps : trs ps = T.rows := by rw [eT]
  refine ⟨a, _, dx, fs, _, 6, _, rfl, ha, G.c_Table, G.h_Table_without, ?_, by unfold FnX; rw [e1, e2, e3]; exact ok_Table_without G, hk, fun H2 e2 vs hv Q kk => ?_⟩
  · obtain ⟨x, hv, dx, d, nm, pl, rw, h1, _⟩ := hx
    cases hv
    rw [ha] at h1
    cases h1
    rfl
  · have := txQ_all hv
    subst this
    refine ⟨[.ref a], zs.map V.str, rfl, rfl, Nat.le_trans (m := 60) (by rw [List.length_map]; exact hl) (by decide), fun p hp => ?_⟩
    have ep := same_new (o := .tup (zs.map V.str)) hp
    refine ⟨.ref a, T.day, ps, p, zs, mkT T.day (T.rows.filter fun t => !decide (t.name ∈ zs)), rfl, Mono.mono (e2.trans ep) hr, by rw [← trs_len, hps]; exact ok.len, upd_same, fun z h => by rw [Tb.Ok.pn eT]; exact hz z h, rfl, ?_, ok2, fun v H' e' ht => kk v H' (ep.trans e') ht⟩
    have e : trs (ps.filter fun p => !decide (p.2.name ∈ zs)) = (trs ps).filter fun t => !decide (t.name ∈ zs) := by
      unfold trs
      rw [List.filter_map]
      rfl
    rw [e, hps]
    exact mkT_perm
theorem mp_btw {m : Int} {ps : List (Addr × Tr)} {a b : Int} (G : Fc X.K mg) (hX : X.prog = R.prog ∧ X.w = w ∧ X.mg = mg) (hl : ps.length ≤ 31) (ok : ∀ p ∈ ps, p.2.Ok) (nd : (pnames ps).Nodup) (hk : 2 ≤ n := by decide) : MethP X n "between" (tabR X.K m ps) [is (.int a), is (.int b)] H (tupQ (prsQ X.K (btw ps a b))) := by
  obtain ⟨e1, e2, e3⟩ := hX
  intro H1 e x hx
  obtain ⟨x, dx, d, nm, pl, rw, rfl, h1, _⟩ := id hx
  refine ⟨x, _, dx, _, _, 2, _, rfl, h1, G.c_Table, G.h_Table_between, rfl, by unfold FnX; rw [e1, e2, e3]; exact ok_Table_between G, hk, fun H2 e2 vs hv Q kk => ?_⟩
  have ev := all2_is (xs := [.int a, .int b]) hv
  subst ev
  exact ⟨.ref x, m, a, b, ps, btw ps a b, rfl, Mono.mono e2 hx, hl, ok, btw_perm, btw_strict ok nd, kk⟩
end
end K22

set_option Elab.async false
set_option linter.all false
set_option pp.maxSteps 400
set_option maxRecDepth 100000
set_option maxHeartbeats 4000000
/-! G9: the calculus: sequences of trips. -/
namespace K22
open PySem PySem.Spec PyProof.Rows L2
section
variable {w : World} {K : PySem.W.Frag} {mg : Str → Option Value} {base : Heap} {H : Hp} {σ : L2.St} {te : TE} {ta : TA} {tt : TT} {T U : Tb} {vs : List Nat}
theorem refs_V (ps : List (Addr × Tr)) : refs ps = (ps.map (·.1)).map V.ref := by
  unfold refs
  rw [List.map_map]
  rfl
theorem rp_neL {ps : List (Addr × Tr)} : RP (rNeL K) (lstQ (prsQ K ps)) (lstQ (prsQ K ps)) H (is (.bl false)) := fun H1 e x y ⟨a, xs, hx, ha, h1⟩ ⟨b, ys, hy, hb, h2⟩ Q k => by
  rw [prs_refs h1, refs_V] at ha
  rw [prs_refs h2, refs_V] at hb
  exact ⟨a, b, _, hx, hy, .inl ⟨SqL.of ha, SqL.of hb⟩, k _ H1 (Same.refl _) rfl⟩
theorem rp_neU {ps : List (Addr × Tr)} : RP (rNeL K) (tupQ (prsQ K ps)) (tupQ (prsQ K ps)) H (is (.bl false)) := fun H1 e x y ⟨a, xs, hx, ha, h1⟩ ⟨b, ys, hy, hb, h2⟩ Q k => by
  rw [prs_refs h1, refs_V] at ha
  rw [prs_refs h2, refs_V] at hb
  exact ⟨a, b, _, hx, hy, .inr ⟨SqT.of ha, SqT.of hb⟩, k _ H1 (Same.refl _) rfl⟩
theorem rp_cat {As Bs : List VQ} [mA : StabL As] [mB : StabL Bs] (hl : As.length + Bs.length ≤ 1000) : RP (rCatA K) (tupQ As) (tupQ Bs) H (tupQ (As ++ Bs)) := fun H1 e x y ⟨a, xs, hx, ha, h1⟩ ⟨b, ys, hy, hb, h2⟩ Q k => by
  refine ⟨a, b, xs, ys, hx, hy, SqT.of ha, SqT.of hb, Nat.le_of_lt (small1000 (by rw [← h1.length, ← h2.length]; exact hl)), fun q => ?_, fun q1 q2 => ?_, fun q1 q2 p hp => ?_⟩
  · subst q
    cases h1
    exact k _ H1 (Same.refl _) ⟨b, ys, rfl, hb, h2⟩
  · subst q2
    cases h2
    rw [List.append_nil] at k
    exact k _ H1 (Same.refl _) ⟨a, xs, rfl, ha, h1⟩
  · have ep := same_new (o := .tup (xs ++ ys)) hp
    exact k _ _ ep ⟨p, _, rfl, upd_same, (MonoL.mono ep h1).app (MonoL.mono ep h2)⟩
theorem ei_own (G : Fc K mg) {x : Addr} {n : Int} {ps : List (Addr × Tr)} (h : EvP te σ H (is (.ref x))) (hx : tabR K n ps (.ref x) H) : EiT K (iOwn K (f_Table_iter K) (preIt K) te) σ H (refs ps) := fun H1 e R k => h H1 e _ fun v H2 e2 hv => by
  obtain ⟨a, dx, d, nm, pl, rw, ea, h1, _, _, _, r, xs, rfl, h5, h6⟩ := Mono.mono (Φ := tabR K n ps) (e.trans e2) hx
  cases ea
  rw [prs_refs h6] at h5
  exact ⟨_, _, dx, _, r, hv, h1, G.h_Table_iter, ⟨dx, d, nm, pl, _, h1, h5⟩, k r H2 e2 (SqT.of h5)⟩
theorem ei_tupF {zs : List Str} (h : EvP te σ H (tupF (txQ zs))) : EiT K (iTup K te) σ H (zs.map V.str) := fun H1 e R k => h H1 e _ fun v H2 e2 ⟨a, o, vs, hv, hd, ha, hs⟩ => by
  rw [txQ_all hs] at ha
  exact ⟨a, hv, ⟨_, SqT.frz ha⟩, k a H2 e2 (SqT.frz ha)⟩
theorem pn_at {ps : List (Addr × Tr)} {i : Nat} {z : Str} (h : (pnames ps)[i]? = some z) : ∃ p, ps[i]? = some p ∧ p.2.name = z := by
  unfold pnames trs at h
  rw [List.map_map, List.getElem?_map] at h
  cases e : ps[i]? with
  | none => rw [e] at h; cases h
  | some p => rw [e] at h; cases h; exact ⟨p, rfl, rfl⟩
theorem rp_getTab (G : Fc K mg) {n : Int} {ps : List (Addr × Tr)} {j : Nat} {p : Addr × Tr} {z : Str} (hj : ps[j]? = some p) (hz : p.2.name = z) (nd : (pnames ps).Nodup) : RP (rGetO K (f_Table_getitem K) (spGet K)) (tabR K n ps) (is (.str z)) H (prQ K p) := fun H1 e x y hx hy Q k => by
  cases hy
  obtain ⟨a, dx, d, nm, pl, rw, rfl, h1, _⟩ := id hx
  refine ⟨a, _, dx, _, rfl, h1, G.h_Table_getitem, G.fi_Table_getitem, _, n, ps, j, p, by rw [hz], hx, hj, nd, fun H' e' h' => k _ H' e' h'⟩
theorem Fc.nfT (G : Fc K mg) (s u : Bool) : PySem.W.notFirst K (cT K s) (.ref (cT K u)) = true := by
  cases s <;> cases u
  · exact G.nf_Run_Run
  · exact G.nf_Run_Stay
  · exact G.nf_Stay_Run
  · exact G.nf_Stay_Stay
theorem Fc.neT (G : Fc K mg) (s : Bool) : NeC K (cT K s) := by
  cases s
  · exact G.ne_Run
  · exact G.ne_Stay
theorem Fc.ltT (G : Fc K mg) (s : Bool) : Meth K (cT K s) "__lt__" (f_Trip_lt K) := by
  cases s
  · exact G.h_Run_lt
  · exact G.h_Stay_lt
theorem Fc.leT (G : Fc K mg) (s : Bool) : Meth K (cT K s) "__le__" (f_Trip_le K) := by
  cases s
  · exact G.h_Run_le
  · exact G.h_Stay_le
theorem rp_neTrip (G : Fc K mg) {t : Tr} (ok : t.Ok) : RP (rNeO K (f_Trip_eq K) (spSame (tripQ K))) (tripQ K t) (tripQ K t) H (is (.bl false)) := fun H1 e x y hx hy Q k => by
  obtain ⟨a, dx, rfl, ha⟩ := id hx
  obtain ⟨b, dy, rfl, hb⟩ := id hy
  exact ⟨a, _, dx, _, b, _, dy, _, rfl, rfl, ha, hb, G.heqT _, G.neT _, G.nfT _ _, _, _, t, rfl, ok, hx, hy, fun H' e' => ⟨true, rfl, k _ H' e' rfl⟩⟩
theorem rp_ltTrip (G : Fc K mg) {t u : Tr} : RP (rOwn2 K (f_Trip_lt K) "__lt__" (spTrip2 K Tr.lt)) (tripQ K t) (tripQ K u) H (is (.bl (Tr.lt t u))) := fun H1 e x y hx hy Q k => by
  obtain ⟨a, dx, rfl, ha⟩ := id hx
  obtain ⟨b, dy, rfl, hb⟩ := id hy
  exact ⟨a, _, dx, _, b, _, dy, _, rfl, rfl, ha, hb, G.ltT _, G.nfT _ _, _, _, t, u, rfl, hx, hy, fun H' e' => k _ H' e' rfl⟩
theorem rp_leTrip (G : Fc K mg) {t u : Tr} : RP (rOwn2 K (f_Trip_le K) "__le__" (spTrip2 K Tr.le)) (tripQ K t) (tripQ K u) H (is (.bl (Tr.le t u))) := fun H1 e x y hx hy Q k => by
  obtain ⟨a, dx, rfl, ha⟩ := id hx
  obtain ⟨b, dy, rfl, hb⟩ := id hy
  exact ⟨a, _, dx, _, b, _, dy, _, rfl, rfl, ha, hb, G.leT _, G.nfT _ _, _, _, t, u, rfl, hx, hy, fun H' e' => k _ H' e' rfl⟩
theorem rp_ixU {ps : List (Addr × Tr)} {i : Nat} {p : Addr × Tr} (hi : ps[i]? = some p) : RP (rIxT K) (tupQ (prsQ K ps)) (is (.int i)) H (prQ K p) := fun H1 e x y ⟨a, xs, hx, ha, hs⟩ hy Q k => by
  cases hy
  obtain ⟨v, hv, hp⟩ := hs.get' (i := i) (Φ := prQ K p) (by unfold prsQ; rw [List.getElem?_map, hi]; rfl)
  exact ⟨a, xs, i, v, hx, rfl, SqT.of ha, atI_nat hv, k v H1 (Same.refl _) hp⟩
def rNeNil (K : PySem.W.Frag) : R2 := fun x y H Q => ∃ p q, ∃ xs : List V, x = .ref p ∧ y = .ref q ∧ SqL K H p xs ∧ SqL K H q [] ∧ Q (.bl (!xs.isEmpty)) H
theorem rp_neNil0 : RP (rNeNil K) (lstQ []) (lstQ []) H (is (.bl false)) := fun H1 e x y ⟨a, xs, hx, ha, hs⟩ ⟨b, ys, hy, hb, hs2⟩ Q k => by
  cases hs
  cases hs2
  exact ⟨a, b, [], hx, hy, SqL.of ha, SqL.of hb, k _ H1 (Same.refl _) rfl⟩
theorem rp_eqNil : RP (rEqV K) (lstQ []) (lstQ []) H (is (.bl true)) := fun H1 e x y ⟨a, xs, hx, ha, hs⟩ ⟨b, ys, hy, hb, hs2⟩ Q k => by
  cases hs
  cases hs2
  exact ⟨1, by decide, .inl ⟨a, b, [], [], hx, hy, SqL.of ha, SqL.of hb, .nil⟩, k _ H1 (Same.refl _) rfl⟩
theorem ev_lcR0 {j : Int} {g : TG} (ha : EaP ta σ H [is (.int j)]) (b0 : -(2 ^ 62) ≤ j) (b1 : j < 2 ^ 62)
    (hg : ∀ i : Nat, i < j.toNat → ∃ σx, wipe σx vs = wipe σ vs ∧ (∀ H' R, R σx H' → g (.int i) (wipe σ vs) H' R) ∧ EtP tt σx H false) : EvP (tLc (iRng1 ta) g tt te vs) σ H (lstQ []) := fun H1 e Q k =>
  ha H1 e _ fun ws H2 e2 hv => by
    have ev := all2_is (xs := [.int j]) hv
    subst ev
    refine ⟨j, rfl, b0, b1, fun D hD => ?_⟩
    refine lc_range (fun i H' => Same H2 H' ∧ H' D = some (.lst [])) ⟨same_new hD, upd_same⟩ ?_ ?_
    · rintro i H3 hi ⟨e3, h3⟩
      obtain ⟨σx, hw, hgx, ht⟩ := hg i hi
      rw [Int.zero_add]
      refine hgx _ _ ⟨hw, ht H3 ((e.trans e2).trans e3) _ fun H4 e4 => ?_⟩
      rw [if_neg Bool.false_ne_true]
      exact ⟨e3.trans e4, e4 _ _ h3⟩
    · rintro H3 ⟨e3, h3⟩
      exact k _ H3 (e2.trans e3) ⟨D, [], rfl, h3, .nil⟩
theorem sp_read {t : Tr} (ok : t.Ok) : SP (spRead K) [is (.str t.text)] H (tripQ K t) := fun H1 e vs hv Q k => by
  have ev := all2_is (xs := [.str t.text]) hv
  subst ev
  exact ⟨t, rfl, ok, fun v H' e' h' => k v H' e' h'⟩
theorem perm_refs {ys : List V} {ps : List (Addr × Tr)} (h : ys.Perm (refs ps)) : ∃ qs, ys = refs qs ∧ qs.Perm ps := by
  induction ps generalizing ys with
  | nil => exact ⟨[], List.perm_nil.mp h, .refl _⟩
  | cons p ps ih =>
    have hm : V.ref p.1 ∈ ys := h.mem_iff.mpr (.head _)
    obtain ⟨l1, l2, rfl⟩ := List.append_of_mem hm
    obtain ⟨us, e, hu⟩ := ih ((List.perm_cons _).mp (List.perm_middle.symm.trans h))
    obtain ⟨u1, u2, rfl, rfl, rfl⟩ := List.append_eq_map_iff.mp e
    exact ⟨u1 ++ p :: u2, by unfold refs; rw [List.map_append]; rfl, List.perm_middle.trans (hu.cons p)⟩
theorem prs_of {ps qs : List (Addr × Tr)} (h : All2 (prsQ K ps) (refs ps) H) (hs : ∀ p ∈ qs, p ∈ ps) : All2 (prsQ K qs) (refs qs) H := by
  have key : ∀ p ∈ ps, prQ K p (.ref p.1) H := fun p hp => by
    obtain ⟨i, hi⟩ := List.getElem?_of_mem hp
    obtain ⟨v, hv, h2⟩ := h.get' (i := i) (Φ := prQ K p) (by unfold prsQ; rw [List.getElem?_map, hi]; rfl)
    obtain ⟨e, _⟩ := id h2
    rw [e] at h2
    exact h2
  induction qs with
  | nil => exact .nil
  | cons q qs ih => exact .cons (key q (hs q (.head _))) (ih fun p hp => hs p (.tail _ hp))
theorem prs_trs {qs : List (Addr × Tr)} {a : Addr} (ha : H a = some (.lst (refs qs))) (h : All2 (prsQ K qs) (refs qs) H) : lstQ (tripsQ K (trs qs)) (.ref a) H := ⟨a, _, rfl, ha, prs_trips h⟩
end
section
variable {X : Cx} {k n : Nat} {f : Addr} {sp : Sp}
theorem op_neQ (F : FnX X k f sp) (hr : Room n X.A) (hk : k + 1 ≤ n := by decide) : OpR X (compareOp .NotEq) (rNeO X.K f sp) := op_neO F hr hk
theorem op_neLQ (hu : X.A.units < cLine) : OpR X (compareOp .NotEq) (rNeL X.K) := op_neL hu
theorem op_neNilQ (hu : X.A.units < cLine) : OpR X (compareOp .NotEq) (rNeNil X.K) := op_neNil hu
theorem call_lenQ (F : FnX X k f sp) (hr : Room n X.A) (hk : k + 1 ≤ n := by decide) : CallR X (.builtin "len") (rLenO X.K f sp) := call_lenO F hr hk
theorem op_addQ (F : FnX X k f sp) (hr : Room n X.A) (hk : k ≤ n := by decide) : OpR X (binaryOp .Add) (rAddO X.K f "__add__" sp) := op_binO (op := .Add) F hr hk
theorem call_strQ (hr : Room n X.A) : CallR X (.type "str") (rStrM X n) := call_strM hr
end
section
variable {w : World} {X : Cx} {n : Nat} {mg : Str → Option Value} {H : Hp}
theorem cp_strTrip (G : Fc X.K mg) (hX : X.prog = R.prog ∧ X.w = w ∧ X.mg = mg) {t : Tr} (ok : t.Ok) (hk : 3 ≤ n := by decide) : CP (rStrM X n) [tripQ X.K t] H (is (.str t.text)) := fun H1 e vs hv Q k => by
  obtain ⟨e1, e2, e3⟩ := hX
  obtain ⟨v, ws, rfl, h1, h2⟩ := all2_cons hv
  cases h2
  obtain ⟨a, dx, rfl, ha⟩ := id h1
  have F : ∃ f, Meth X.K (cT X.K t.stay) "__str__" f ∧ FnX X 1 f (spTell X.K t.stay) := by
    cases t.stay
    · exact ⟨_, G.h_Run_str, by unfold FnX; rw [e1, e2, e3]; exact ok_Run_str G⟩
    · exact ⟨_, G.h_Stay_str, by unfold FnX; rw [e1, e2, e3]; exact ok_Trip_str G⟩
  obtain ⟨f, M, F⟩ := F
  exact ⟨a, _, dx, _, f, 1, _, rfl, ha, M, F, hk, .ref a, t, rfl, rfl, h1, ok, fun H' e' => ⟨_, rfl, k _ H' e' rfl⟩⟩
end
section
variable {σ : L2.St} {H : Hp} {ta : TA} {A B : VQ} {u : TS} {D : Ends} {tt : TT} {a : TS} {p c : Addr} {M : Nat}
theorem s_par {i j : Nat} [m : Mono A] (h : EaP ta σ H [A, B]) (k : ∀ x y H2, Same H H2 → A x H2 → B y H2 → u D ((σ.set i (some x)).set j (some y)) H2) : tSeq (tPar i j ta) u D σ H := h H (Same.refl H) _ fun vs H2 e2 hv => by
  obtain ⟨x, ws, rfl, h1, h2⟩ := all2_cons hv
  obtain ⟨y, ws, rfl, h3, h4⟩ := all2_cons h2
  cases h4
  exact ⟨x, y, rfl, k x y H2 e2 h1 h3⟩
theorem refs_at {ps : List (Addr × Tr)} {i : Nat} {v : V} (h : (refs ps)[i]? = some v) : ∃ q, ps[i]? = some q ∧ v = .ref q.1 := by
  unfold refs at h
  rw [List.getElem?_map] at h
  cases e : ps[i]? with
  | none => rw [e] at h; cases h
  | some q => rw [e] at h; cases h; exact ⟨q, rfl, rfl⟩
theorem pen_ne_refs {N : Nat} {l : Addr} {ps : List (Addr × Tr)} (h : penAt N p c H) (hl : H l = some (.lst (refs ps))) : l ≠ p := by
  rintro rfl
  obtain ⟨ns, t, r, h1, h2, _⟩ := h
  rw [h2] at hl
  have e := Option.some.inj hl
  injection e with e
  have e1 : (refs ps)[1]? = some (.int t) := by rw [← e]; rfl
  obtain ⟨q, _, hq⟩ := refs_at e1
  cases hq
theorem btw_len {ps : List (Addr × Tr)} {a b : Int} : (btw ps a b).length ≤ ps.length := by
  rw [btw_perm.length_eq]
  exact List.length_filter_le _ _
/-- a test that moves the pen -/
theorem s_skipX (h : ∀ Q : Bool → Hp → Prop, (∀ H2, KeepX p H H2 → penAt M p c H2 → Q false H2) → tt σ H Q) (k : ∀ H2, KeepX p H H2 → penAt M p c H2 → u D σ H2) : tSeq (tIfS tt a tNext) u D σ H := h _ fun H2 k2 p2 => k H2 k2 p2
end
end K22

set_option Elab.async false
set_option linter.all false
set_option pp.maxSteps 400
set_option maxRecDepth 100000
set_option maxHeartbeats 4000000
/-! G10: the law: trips right. -/
namespace K22
open PySem PySem.Spec PyProof.Rows L2
section
variable {w : World} {K : PySem.W.Frag} {mg : Str → Option Value} {base : Heap}
abbrev NT : List Str := ["_law_pen_here", "_law_made", "_law_long", "_law_trips", "_law_one", "_law_two", "_law_low", "_law_high", "_law_told", "_law_trip_here", "_law_title", "_law_at"]
theorem sc_law_trips_right : FnScope NT ["_law_pen_here", "_law_made", "_law_long"] (defScope s_law_trips_right) := ⟨rfl, rfl, rfl, by decide +kernel, rfl, by decide +kernel, by decide +kernel⟩
def spRight (K : PySem.W.Frag) (d : Nat) : Sp := fun vs H Q _ => ∃ (p c : Addr) (N : Nat) (x : V) (T : Tb), vs = [.ref p, x, .int T.day] ∧ penAt N p c H ∧ N + d ≤ 1000000 ∧ tabQ K T x H ∧ T.Ok ∧ T.day ≤ 1000000000 ∧ ∀ H', KeepX p H H' → penAt (N + d) p c H' → Q (.bl true) H'
theorem ok_law_trips_right (G : Fc K mg) : Fn R.prog w K mg base 10 (f_law_trips_right K) (spRight K 40) := by
  refine fnA G.d_law_trips_right sc_law_trips_right (fun _ _ _ _ _ _ us hl => match us, hl with | [_, _, _], _ => rfl) (fun vs H Q h => ?_) (fun vs H Q E h => h) (fun cdv A outer s H vs Q hr h => ?_)
  · obtain ⟨p, c, N, x, T, rfl, _⟩ := h
    rfl
  · obtain ⟨p, c, N, x, T, rfl, hp, hN, hx, ok, hd9, k⟩ := h
    have nd := sc_law_trips_right.nd
    have hu64 : (A.deeper (envOfC "_law_trips_right" (defScope s_law_trips_right) s.heap.objs.size (f_law_trips_right K) cdv)).units + 64 < cLine := hr.units
    have hu : (A.deeper (envOfC "_law_trips_right" (defScope s_law_trips_right) s.heap.objs.size (f_law_trips_right K) cdv)).units < cLine := Nat.lt_of_le_of_lt (Nat.le_add_right _ 64) hu64
    refine ⟨_, pss_cons (ps_setLc (i := 3) (te := tVar 9) (tt := tYes) (own := [("_law_trip_here", 9)]) (g := gName 9) (by rfl) nd rfl rfl (sw_true rfl rfl rfl (by decide +kernel)) (pi_own (ok_Table_iter G) hr (pv 1)) (blkOk_by (own := [("_law_trip_here", 9)]) (N := NT) (sc := defScope s_law_trips_right) (by decide +kernel))
          (fun _ _ _ _ _ => pg_name (i := 9) nd rfl (Or.inl rfl)) (fun _ _ _ _ _ => pts_nil) (fun _ _ _ _ _ => pv 9)) <|
      pss_cons (ps_if (PW.pt (pw_or (pt_cmpR (op_neQ (ok_Table_eq G) hr) (pe_s G.st_Table_of (ok_Table_of G) hr (pe_glob (v := .ref (cTable K)) (by rfl) G.g_Table rfl) (pa_cons (pe_fld (pv 1) rfl) (pa_cons (pe_f (ok_law_mixed G) hr G.g_law_mixed G.d_law_mixed.choose_spec.kp (pa_cons (pv 0) (pa_cons (pv 3) pa_nil))) pa_nil))) (pv 1) (nomark _))
          (pw_or1 (pt_cmpR (op_neLQ hu) (pe_lc (te := tOp (rGetO K (f_Table_getitem K) (spGet K)) (tVar 1) (tVar 10)) (own := [("_law_title", 10)]) (g := gName 10) (by rfl) nd (pi_tup (pe_fld (pv 1) rfl)) (blkOk_by (own := [("_law_title", 10)]) (N := NT) (sc := defScope s_law_trips_right) (by decide +kernel))
            (fun _ _ _ _ _ => pg_name (i := 10) nd rfl (Or.inl rfl)) (fun _ _ _ _ _ => pts_nil) (fun _ _ _ _ _ => pe_ixO (ok_Table_getitem G) hr (pv 1) (pv 10))) (pv 3) (nomark _))))) pss_never pss_nil) <|
      pss_cons (ps_if (pt_cmpR (op_neQ (ok_Table_eq G) hr) (pe_s G.st_Table_of (ok_Table_of G) hr (pe_glob (v := .ref (cTable K)) (by rfl) G.g_Table rfl) (pa_cons (pe_fld (pv 1) rfl) (pa_cons (pe_lc (te := tS (cTrip K) (spRead K) (tC (.ref (cTrip K))) (tCons (tCB (rStrM (cxOf CX0 R.prog w K mg base NT "_law_trips_right" (defScope s_law_trips_right) (f_law_trips_right K) cdv A outer s H E0).nox 9) (tCons (tVar 9) tNil)) tNil)) (own := [("_law_trip_here", 9)]) (g := gName 9) (by rfl) nd (pi_list (pv 3)) (blkOk_by (own := [("_law_trip_here", 9)]) (N := NT) (sc := defScope s_law_trips_right) (by decide +kernel))
            (fun _ _ _ _ _ => pg_name (i := 9) nd rfl (Or.inl rfl)) (fun _ _ _ _ _ => pts_nil) (fun _ _ _ _ _ => pe_s G.st_Trip_read (ok_Trip_read G) hr (pe_glob (v := .ref (cTrip K)) (by rfl) G.g_Trip rfl) (pa_cons (pe_callTy (call_strQ hr) (by rfl) G.b_str (by decide +kernel) (pa_cons (pv 9) pa_nil)) pa_nil))) pa_nil))) (pv 1) (nomark _)) pss_never pss_nil) <|
      pss_cons (ps_par (i := 4) (j := 5) rfl nd rfl rfl (by decide) rfl rfl (pa_cons (pe_f (ok_law_draw G) hr G.g_law_draw G.d_law_draw.choose_spec.kp (pa_cons (pv 0) (pa_cons (pv 2) pa_nil))) (pa_cons (pe_f (ok_law_draw G) hr G.g_law_draw G.d_law_draw.choose_spec.kp (pa_cons (pv 0) (pa_cons (pv 2) pa_nil))) pa_nil)) (by rfl)) <|
      pss_cons (ps_par (i := 6) (j := 7) rfl nd rfl rfl (by decide) rfl rfl (pa_cons (pe_callB (call_min2 rfl) (by rfl) G.b_min (by decide +kernel) (pa_cons (pe_callTy call_int1 (by rfl) G.b_int (by decide +kernel) (pa_cons (pv 4) pa_nil)) (pa_cons (pe_callTy call_int1 (by rfl) G.b_int (by decide +kernel) (pa_cons (pv 5) pa_nil)) pa_nil))) (pa_cons (pe_callB (call_max2 rfl) (by rfl) G.b_max (by decide +kernel) (pa_cons (pe_callTy call_int1 (by rfl) G.b_int (by decide +kernel) (pa_cons (pv 4) pa_nil)) (pa_cons (pe_callTy call_int1 (by rfl) G.b_int (by decide +kernel) (pa_cons (pv 5) pa_nil)) pa_nil))) pa_nil)) (by rfl)) <|
      pss_cons (ps_set (i := 8) nd rfl (Or.inr rfl) (pe_op op_catA (pe_op op_catA (pe_m hr (pv 1) (pa_cons pe_int (pa_cons (pv 6) pa_nil))) (pe_m hr (pv 1) (pa_cons (pv 6) (pa_cons (pv 7) pa_nil)))) (pe_m hr (pv 1) (pa_cons (pv 7) (pa_cons (pv 2) pa_nil))))) <|
      pss_cons (ps_if (PW.pt (pw_or (pt_cmpR (op_neLQ hu) (pv 8) (pe_m hr (pv 1) (pa_cons pe_int (pa_cons (pv 2) pa_nil))) (nomark _)) (pw_or (pt_cmpR op_ne (pe_callB call_len_seq (by rfl) G.b_len PySem.boot_len (pa_cons (pv 8) pa_nil)) (pe_callB (call_lenQ (ok_Table_len G) hr) (by rfl) G.b_len PySem.boot_len (pa_cons (pv 1) pa_nil)) (nomark _))
          (pw_or1 (pt_cmpR (op_neLQ hu) (pe_m hr (pv 1) (pa_cons (pv 7) (pa_cons (pv 7) pa_nil))) (pe_tup pa_nil) (nomark _)))))) pss_never pss_nil) <|
      pss_cons (ps_if (pt_cmpR (op_neNilQ hu) (pe_lc (te := tVar 11) (tt := tOr (tNot (tTest (tOp (rOwn2 K (f_Trip_lt K) "__lt__" (spTrip2 K Tr.lt)) (tOp (rIxT K) (tVar 8) (tVar 11)) (tOp (rIxT K) (tVar 8) (tOp (rI0 fun i j => .int (i + j)) (tVar 11) (tC (.int 1))))))) (tTest (tOp (rOwn2 K (f_Trip_le K) "__le__" (spTrip2 K Tr.le)) (tOp (rIxT K) (tVar 8) (tOp (rI0 fun i j => .int (i + j)) (tVar 11) (tC (.int 1)))) (tOp (rIxT K) (tVar 8) (tVar 11))))) (own := [("_law_at", 11)]) (g := gName 11) (by rfl) nd (pi_range1 (by rfl) G.b_range (pa_cons (pe_op op_sub (pe_callB call_len_seq (by rfl) G.b_len PySem.boot_len (pa_cons (pv 8) pa_nil)) pe_int) pa_nil)) (blkOk_by (own := [("_law_at", 11)]) (N := NT) (sc := defScope s_law_trips_right) (by decide +kernel))
            (fun _ _ _ _ _ => pg_name (i := 11) nd rfl (Or.inl rfl)) (fun _ _ _ _ _ => pts_one (PW.pt (pw_or (pt_not (pt_cmpR (op_cmpO (op := .Lt) (ok_Trip_lt G) hr) (pe_ix ix_tup (pv 8) (pv 11) (fun _ _ => rfl)) (pe_ix ix_tup (pv 8) (pe_op op_add (pv 11) pe_int) (fun _ _ => rfl)) (nomark _)))
              (pw_or1 (pt_cmpR (op_cmpO (op := .LtE) (ok_Trip_le G) hr) (pe_ix ix_tup (pv 8) (pe_op op_add (pv 11) pe_int) (fun _ _ => rfl)) (pe_ix ix_tup (pv 8) (pv 11) (fun _ _ => rfl)) (nomark _)))))) (fun _ _ _ _ _ => pv 11)) (pe_lst pa_nil) (nomark _)) pss_never pss_nil) <|
      pss_one (ps_ret (pe_cmpR (op_eqV hu64) (pe_lc (te := tVar 9) (tt := tTest (tOp (rNeO K (f_Trip_eq K) (spSame (tripQ K))) (tOp (rGetO K (f_Table_getitem K) (spGet K)) (tVar 1) (tFld K (tVar 9) "name")) (tVar 9))) (own := [("_law_trip_here", 9)]) (g := gName 9) (by rfl) nd (pi_tup (pv 8)) (blkOk_by (own := [("_law_trip_here", 9)]) (N := NT) (sc := defScope s_law_trips_right) (by decide +kernel))
            (fun _ _ _ _ _ => pg_name (i := 9) nd rfl (Or.inl rfl)) (fun _ _ _ _ _ => pts_one (pt_cmpR (op_neQ (ok_Trip_eq G) hr) (pe_ixO (ok_Table_getitem G) hr (pv 1) (pe_fld (pv 9) rfl)) (pv 9) (nomark _))) (fun _ _ _ _ _ => pv 9)) (pe_lst pa_nil) (nomark _))), ?_⟩
    obtain ⟨ps, eT, hR⟩ := tab_R hx
    obtain ⟨a, dx, fs, rfl, ha⟩ := tabQ_ins hx
    have hps : trs ps = T.rows := by rw [eT]
    have hpn : pnames ps = T.names := Tb.Ok.pn eT
    have hnd : (pnames ps).Nodup := by rw [hpn]; exact ok.nd
    have hmem : ∀ q ∈ ps, q.2 ∈ T.rows := fun q hq => by rw [← hps]; exact List.mem_map_of_mem hq
    have hok : ∀ q ∈ ps, q.2.Ok := fun q hq => ok.tr _ (hmem q hq)
    have hlv : ∀ q ∈ ps, 0 ≤ q.2.leaves ∧ q.2.leaves < T.day := fun q hq => ⟨(hok q hq).l0, ok.lv _ (hmem q hq)⟩
    have hlen : ps.length ≤ 31 := by rw [← trs_len, hps]; exact ok.len
    have hd1 := ok.d0
    have hrl : (refs ps).length = ps.length := refs_len
    obtain ⟨r, hr1, hr2, hr3⟩ := tabR_rows G hR
    have hlc1 := ev_lcT (K := K) (g := gName 9) (vs := [9]) (te := tVar 9) (tt := tYes) (ei_own G (te := tVar 1) (σ := start NT [.ref p, .ref a, .int T.day]) (ev_v rfl) hR) (fun _ => true) (fun i => prQ K (ps.getD i default)) (by omega) fun i v hi => by
      obtain ⟨ht, _⟩ := prs_at hr3 hi
      exact ⟨[some (.ref p), some (.ref a), some (.int T.day), none, none, none, none, none, none, some v, none, none], rfl, fun H' R hR => hR, et_yes, fun _ => ev_var rfl ht⟩
    rw [show keptQ (fun _ => true) (fun i => prQ K (ps.getD i default)) (refs ps).length = prsQ K ps by rw [refs_len]; exact range_map1 ps default (prQ K)] at hlc1
    refine s_set hlc1 fun v H1 e1 hv => ?_
    obtain ⟨l, xs, rfl, hl, hls⟩ := hv
    have exs := prs_refs hls
    subst exs
    have hp1 := hp.mono e1 (Nat.le_refl _)
    have hlp := pen_ne_refs hp1 hl
    have hx1 : tabQ K T (.ref a) H1 := Mono.mono e1 hx
    refine s_skipX (p := p) (c := c) (M := N + 31) (fun Q q => ?_) fun H2 k2 hp2 => ?_
    · refine ⟨rfl, ?_⟩
      refine (ev_Tday G (ev_var (i := 1) (σ := [some (.ref p), some (.ref a), some (.int T.day), some (.ref l), none, none, none, none, none, none, none, none]) rfl hx1)) H1 (Same.refl H1) _ fun d H2 e2 hd => ?_
      have hp2 := hp1.mono e2 (Nat.le_refl _)
      have hl2 := e2 _ _ hl
      refine ⟨_, rfl, _, rfl, p, c, l, N, refs ps, rfl, hp2, by omega, hlp, .inl hl2, by omega, fun b ys H3 k3 hp3 hperm hbp hb0 hb => ?_⟩
      obtain ⟨qs, rfl, hqs⟩ := perm_refs hperm
      have nl3 : NL H2 H3 := nl_draw k3 hp2 hp3
      have hls3 : All2 (prsQ K ps) (refs ps) H3 := StabL.st nl3 (MonoL.mono e2 hls)
      have hqs3 := prs_of hls3 fun q hq => hqs.mem_iff.mp hq
      have hx3 : tabQ K T (.ref a) H3 := Stab.st nl3 (Mono.mono e2 hx1)
      refine sp_tabOf (K := K) (ts := trs qs) (T := T) (n := T.day) rfl (by rw [← hps]; exact hqs.map _) ok H3 (Same.refl _) _ (.cons (Stab.st nl3 hd) (.cons ⟨b, _, rfl, hb, prs_trips hqs3⟩ .nil)) _ fun v H4 e4 hv => ?_
      refine ⟨_, rfl, ?_⟩
      refine rp_neTab G ok (H := H4) H4 (Same.refl _) v _ hv (Mono.mono e4 hx3) _ fun z H5 e5 hz => ⟨false, hz, ?_⟩
      refine iteF ?_
      have e35 := e4.trans e5
      have hx5 := Mono.mono (Φ := tabQ K T) e35 hx3
      have hR5 : tabR K T.day ps (.ref a) H5 := Mono.mono e35 (Stab.st nl3 (Mono.mono (e1.trans e2) hR))
      have hl5 := e35 _ _ (k3 _ _ hlp hl2)
      have hls5 := MonoL.mono e35 hls3
      have hnl : (T.names.map V.str).length = ps.length := by rw [← hpn, List.length_map]; unfold pnames trs; rw [List.length_map, List.length_map]
      have hlc2 := ev_lcT (K := K) (g := gName 10) (vs := [10]) (tt := tYes) (te := tOp (rGetO K (f_Table_getitem K) (spGet K)) (tVar 1) (tVar 10)) (ei_tupF (te := tFld K (tVar 1) "names") (σ := [some (.ref p), some (.ref a), some (.int T.day), some (.ref l), none, none, none, none, none, none, none, none]) (zs := T.names) (H := H5) (ev_Tnames G (ev_var (i := 1) rfl hx5))) (fun _ => true) (fun i => prQ K (ps.getD i default)) (by omega) fun i v hi => by
        rw [List.getElem?_map, ← hpn] at hi
        cases hz : (pnames ps)[i]? with
        | none => rw [hz] at hi; cases hi
        | some z =>
          rw [hz] at hi
          cases hi
          obtain ⟨q, hq, eq⟩ := pn_at hz
          refine ⟨[some (.ref p), some (.ref a), some (.int T.day), some (.ref l), none, none, none, none, none, none, some (.str z), none], rfl, fun H' R hR => hR, et_yes, fun _ => ?_⟩
          rw [List.getD_eq_getElem?_getD, hq]
          exact ev_op (ev_var (i := 1) rfl hR5) (ev_v (i := 10) rfl) (rp_getTab G hq eq hnd)
      rw [show keptQ (fun _ => true) (fun i => prQ K (ps.getD i default)) (T.names.map V.str).length = prsQ K ps by rw [hnl]; exact range_map1 ps default (prQ K)] at hlc2
      refine et_test (ev_op hlc2 (ev_var (i := 3) rfl ⟨l, _, rfl, hl5, hls5⟩) rp_neL) H5 (Same.refl _) Q fun H6 e6 => q H6 ?_ ?_
      · exact (KeepX.trans (Same.keepX e2) k3).same (e35.trans e6)
      · exact hp3.mono (e35.trans e6) (by omega)
    have hR1 : tabR K T.day ps (.ref a) H1 := Mono.mono e1 hR
    have nl12 : NL H1 H2 := nl_draw k2 hp1 hp2
    have hx2 : tabQ K T (.ref a) H2 := Stab.st nl12 hx1
    have hR2 : tabR K T.day ps (.ref a) H2 := Stab.st nl12 hR1
    have hl2 := k2 _ _ hlp hl
    have hls2 := StabL.st nl12 hls
    have kk2 : KeepX p H H2 := KeepX.trans (Same.keepX e1) k2
    -- read from their texts
    have hlc3 := ev_lcL (K := K) (g := gName 9) (vs := [9]) (tt := tYes) (te := tS (cTrip K) (spRead K) (tC (.ref (cTrip K))) (tCons (tCB (rStrM (cxOf CX0 R.prog w K mg base NT "_law_trips_right" (defScope s_law_trips_right) (f_law_trips_right K) cdv A outer s H E0).nox 9) (tCons (tVar 9) tNil)) tNil))
      (ei_lst (te := tVar 3) (σ := [some (.ref p), some (.ref a), some (.int T.day), some (.ref l), none, none, none, none, none, none, none, none]) (ev_v rfl) hl2) (fun _ => true) (fun i => tripQ K (ps.getD i default).2) (by omega) fun i v hi => by
        obtain ⟨ht, hm⟩ := prs_at hls2 hi
        have o := hok _ (List.mem_of_getElem? hm)
        exact ⟨[some (.ref p), some (.ref a), some (.int T.day), some (.ref l), none, none, none, none, none, some v, none, none], rfl, fun H' R hR => hR, et_yes, fun _ => ev_s ev_k (ea_cons (ev_cb (ea_cons (ev_var (i := 9) rfl ht.2) ea_nil) (cp_strTrip G ⟨rfl, rfl, rfl⟩ o)) ea_nil) (sp_read o)⟩
    rw [show keptQ (fun _ => true) (fun i => tripQ K (ps.getD i default).2) (refs ps).length = tripsQ K T.rows by
      rw [hrl, ← hps]
      unfold tripsQ trs
      rw [List.map_map]
      exact range_map1 ps default fun q => tripQ K q.2] at hlc3
    have v1 : ∀ (σ : L2.St) (H' : Hp), σ[1]? = some (some (.ref a)) → tabQ K T (.ref a) H' → EvP (tVar 1) σ H' (tabQ K T) := fun σ H' h h2 => ev_var h h2
    refine s_skip (et_test (ev_op (ev_s ev_k (ea_cons (ev_Tday G (v1 _ _ rfl hx2)) (ea_cons hlc3 ea_nil)) (sp_tabOf rfl (List.Perm.refl _) ok)) (v1 _ _ rfl hx2) (rp_neTab G ok))) fun H3 e3 => ?_
    have hp3 := hp2.mono e3 (Nat.le_refl _)
    have hR3 : tabR K T.day ps (.ref a) H3 := Mono.mono e3 hR2
    -- the clocks
    refine ⟨_, rfl, _, rfl, p, c, T.day, N + 31, rfl, hp3, by omega, hd1, by omega, fun i1 H4 k4 hp4 a0 a1 => ?_⟩
    refine ⟨_, rfl, _, rfl, p, c, T.day, N + 32, rfl, hp4, by omega, hd1, by omega, fun i2 H5 k5 hp5 b0 b1 => ?_⟩
    refine ⟨_, _, rfl, ?_⟩
    have nl35 : NL H3 H5 := (nl_draw k4 hp3 hp4).trans (nl_draw k5 hp4 hp5)
    have hR5 : tabR K T.day ps (.ref a) H5 := Stab.st nl35 hR3
    have hx5 : tabQ K T (.ref a) H5 := Stab.st nl35 (Mono.mono e3 hx2)
    have kk5 : KeepX p H H5 := KeepX.trans (KeepX.trans (kk2.same e3) k4) k5
    refine s_par (ea_cons (ev_cb (ea_cons (ev_cb (ea_cons (ev_v (i := 4) (v := .int i1) rfl) ea_nil) cp_int) (ea_cons (ev_cb (ea_cons (ev_v (i := 5) (v := .int i2) rfl) ea_nil) cp_int) ea_nil)) cp_min) (ea_cons (ev_cb (ea_cons (ev_cb (ea_cons (ev_v (i := 4) (v := .int i1) rfl) ea_nil) cp_int) (ea_cons (ev_cb (ea_cons (ev_v (i := 5) (v := .int i2) rfl) ea_nil) cp_int) ea_nil)) cp_max) ea_nil)) fun x y H6 e6 hx6 hy6 => ?_
    cases hx6
    cases hy6
    have hlo : 0 ≤ gmin i1 i2 ∧ gmin i1 i2 ≤ gmax i1 i2 ∧ gmax i1 i2 < T.day := by
      unfold gmin gmax
      split <;> split <;> omega
    generalize gmin i1 i2 = lo at hlo
    generalize gmax i1 i2 = hi at hlo
    obtain ⟨lo0, lohi, hi1⟩ := hlo
    have hR6 : tabR K T.day ps (.ref a) H6 := Mono.mono e6 hR5
    have hx6 : tabQ K T (.ref a) H6 := Mono.mono e6 hx5
    have bl : ∀ a b : Int, (prsQ K (btw ps a b)).length ≤ 31 := fun a b => by
      unfold prsQ
      rw [List.length_map]
      exact Nat.le_trans btw_len hlen
    have r1 : ∀ (σ : L2.St) (H' : Hp), σ[1]? = some (some (.ref a)) → tabR K T.day ps (.ref a) H' → EvP (tVar 1) σ H' (tabR K T.day ps) := fun σ H' h h2 => ev_var h h2
    have mb : ∀ (a b : Int) (H' : Hp), MethP (cxOf CX0 R.prog w K mg base NT "_law_trips_right" (defScope s_law_trips_right) (f_law_trips_right K) cdv A outer s H E0).nox 9 "between" (tabR K T.day ps) [is (.int a), is (.int b)] H' (tupQ (prsQ K (btw ps a b))) := fun a b H' => mp_btw G ⟨rfl, rfl, rfl⟩ hlen hok hnd
    refine s_set (ev_op (ev_op (ev_m (r1 _ _ rfl hR6) (ea_cons ev_k (ea_cons (ev_v (i := 6) (v := .int lo) rfl) ea_nil)) (mb _ _ _)) (ev_m (r1 _ _ rfl hR6) (ea_cons (ev_v (i := 6) (v := .int lo) rfl) (ea_cons (ev_v (i := 7) (v := .int hi) rfl) ea_nil)) (mb _ _ _)) (rp_cat (by have := bl 0 lo; have := bl lo hi; omega)))
      (ev_m (r1 _ _ rfl hR6) (ea_cons (ev_v (i := 7) (v := .int hi) rfl) (ea_cons (ev_v (i := 2) (v := .int T.day) rfl) ea_nil)) (mb _ _ _)) (rp_cat (by have := bl 0 lo; have := bl lo hi; have := bl hi T.day; rw [List.length_append]; omega))) fun v H7 e7 hv => ?_
    have etold : prsQ K (btw ps 0 lo) ++ prsQ K (btw ps lo hi) ++ prsQ K (btw ps hi T.day) = prsQ K (btw ps 0 T.day) := by
      unfold prsQ
      rw [← List.map_append, btw_cut hok hnd lo0 lohi, ← List.map_append, btw_cut hok hnd (Int.le_trans lo0 lohi) (Int.le_of_lt hi1)]
    rw [etold] at hv
    have hall : (btw ps 0 T.day).Perm ps := btw_all hlv
    have hR7 : tabR K T.day ps (.ref a) H7 := Mono.mono e7 hR6
    have hx7 : tabQ K T (.ref a) H7 := Mono.mono e7 hx6
    have tol : ∀ (σ : L2.St) (H' : Hp), σ[8]? = some (some v) → Same H7 H' → EvP (tVar 8) σ H' (tupQ (prsQ K (btw ps 0 T.day))) := fun σ H' h e => ev_var h (Mono.mono e hv)
    refine s_skip (et_eq (et_or (et_test (ev_op (tol _ _ rfl (Same.refl _)) (ev_m (r1 _ _ rfl hR7) (ea_cons ev_k (ea_cons (ev_v (i := 2) (v := .int T.day) rfl) ea_nil)) (mb _ _ _)) rp_neU)) fun _ =>
      et_or (et_test (ev_op (ev_cb (ea_cons (tol _ _ rfl (Same.refl _)) ea_nil) (cp_lenU (K := K))) (ev_cb (ea_cons (v1 _ _ rfl hx7) ea_nil) (cp_lenTab G ok)) (rp_ne rfl))) fun _ =>
      et_test (ev_op (ev_m (r1 _ _ rfl hR7) (ea_cons (ev_v (i := 7) (v := .int hi) rfl) (ea_cons (ev_v (i := 7) (v := .int hi) rfl) ea_nil)) (mb _ _ _)) (by rw [btw_none]; exact ev_tup ea_nil) rp_neU)) ?_) fun H8 e8 => ?_
    · have : ((prsQ K (btw ps 0 T.day)).length : Int) = (T.rows.length : Nat) := by
        unfold prsQ
        rw [List.length_map, hall.length_eq, ← hps, trs_len]
      rw [this]
      simp
    have e78 := e8
    have hlt : (btw ps 0 T.day).length = ps.length := hall.length_eq
    have hjl : (prsQ K (btw ps 0 T.day)).length = ps.length := by unfold prsQ; rw [List.length_map, hlt]
    have nx : ∀ i : Nat, i < ((prsQ K (btw ps 0 T.day)).length : Int).toNat - 1 → ∃ q1 q2, (btw ps 0 T.day)[i]? = some q1 ∧ (btw ps 0 T.day)[i + 1]? = some q2 ∧ Tr.lt q1.2 q2.2 = true := fun i hi => by
      have h1 : i < (btw ps 0 T.day).length := by omega
      have h2 : i + 1 < (btw ps 0 T.day).length := by omega
      exact ⟨_, _, List.getElem?_eq_getElem h1, List.getElem?_eq_getElem h2, btw_next hok hnd (List.getElem?_eq_getElem h1) (List.getElem?_eq_getElem h2)⟩
    have hlcr := ev_lcR0 (H := H8) (g := gName 11) (vs := [11]) (te := tVar 11) (tt := tOr (tNot (tTest (tOp (rOwn2 K (f_Trip_lt K) "__lt__" (spTrip2 K Tr.lt)) (tOp (rIxT K) (tVar 8) (tVar 11)) (tOp (rIxT K) (tVar 8) (tOp (rI0 fun i j => .int (i + j)) (tVar 11) (tC (.int 1))))))) (tTest (tOp (rOwn2 K (f_Trip_le K) "__le__" (spTrip2 K Tr.le)) (tOp (rIxT K) (tVar 8) (tOp (rI0 fun i j => .int (i + j)) (tVar 11) (tC (.int 1)))) (tOp (rIxT K) (tVar 8) (tVar 11)))))
      (σ := [some (.ref p), some (.ref a), some (.int T.day), some (.ref l), some (.int i1), some (.int i2), some (.int lo), some (.int hi), some v, none, none, none])
      (ea_cons (ev_op (ev_cb (ea_cons (tol _ _ rfl e8) ea_nil) (cp_lenU (K := K))) (ev_k (v := .int 1)) (rp_I0 (g := fun i j => .int (i - j)))) ea_nil) (by omega) (by omega) fun i hin => by
        obtain ⟨q1, q2, h1, h2, hlt⟩ := nx i (by omega)
        refine ⟨[some (.ref p), some (.ref a), some (.int T.day), some (.ref l), some (.int i1), some (.int i2), some (.int lo), some (.int hi), some v, none, none, some (.int i)], rfl, fun H' R hR => hR, ?_⟩
        have x1 := ev_op (tol [some (.ref p), some (.ref a), some (.int T.day), some (.ref l), some (.int i1), some (.int i2), some (.int lo), some (.int hi), some v, none, none, some (.int i)] H8 rfl e8) (ev_v (i := 11) (v := .int i) rfl) (rp_ixU (K := K) h1)
        have x2 := ev_op (tol [some (.ref p), some (.ref a), some (.int T.day), some (.ref l), some (.int i1), some (.int i2), some (.int lo), some (.int hi), some v, none, none, some (.int i)] H8 rfl e8) (ev_op (ev_v (i := 11) (v := .int i) rfl) (ev_k (v := .int 1)) (rp_I0 (g := fun i j => .int (i + j)))) (rp_ixU (K := K) h2)
        have y1 := EvP.imp x1 (Ψ := tripQ K q1.2) fun v H1 _ h => h.2
        have y2 := EvP.imp x2 (Ψ := tripQ K q2.2) fun v H1 _ h => h.2
        have t1 := ev_op y1 y2 (rp_ltTrip G)
        have t2 := ev_op y2 y1 (rp_leTrip G)
        rw [hlt] at t1
        rw [le_of_lt hlt] at t2
        exact et_or (et_not (b := true) (et_test t1)) fun _ => et_test t2
    refine s_skip (et_test (ev_op hlcr (ev_lst ea_nil) rp_neNil0)) fun H9 e9 => ?_
    have hR9 : tabR K T.day ps (.ref a) H9 := Mono.mono (e8.trans e9) hR7
    obtain ⟨vb, vs, rfl, hvb, hvs⟩ := Mono.mono (e8.trans e9) hv
    have evs := prs_refs hvs
    subst evs
    have hlc9 := ev_lcT (K := K) (g := gName 9) (vs := [9]) (te := tVar 9) (tt := tTest (tOp (rNeO K (f_Trip_eq K) (spSame (tripQ K))) (tOp (rGetO K (f_Table_getitem K) (spGet K)) (tVar 1) (tFld K (tVar 9) "name")) (tVar 9)))
      (ei_tup (te := tVar 8) (H := H9) (σ := [some (.ref p), some (.ref a), some (.int T.day), some (.ref l), some (.int i1), some (.int i2), some (.int lo), some (.int hi), some (.ref vb), none, none, none]) (ev_v rfl) hvb) (fun _ => false) (fun _ => is .non) (by rw [refs_len]; omega) fun i v hiv => by
        obtain ⟨ht, hm⟩ := prs_at hvs hiv
        generalize (btw ps 0 T.day).getD i default = q at ht hm
        have hq := (btw_mem.mp (List.mem_of_getElem? hm)).1
        obtain ⟨j, hj⟩ := List.getElem?_of_mem hq
        have v9 : EvP (tVar 9) [some (.ref p), some (.ref a), some (.int T.day), some (.ref l), some (.int i1), some (.int i2), some (.int lo), some (.int hi), some (.ref vb), some v, none, none] H9 (tripQ K q.2) := ev_var rfl ht.2
        refine ⟨[some (.ref p), some (.ref a), some (.int T.day), some (.ref l), some (.int i1), some (.int i2), some (.int lo), some (.int hi), some (.ref vb), some v, none, none], rfl, fun H' R hR => hR, ?_, fun h => nomatch h⟩
        exact et_test (ev_op (EvP.imp (ev_op (r1 _ _ rfl hR9) (ev_tname G v9) (rp_getTab G hj rfl hnd)) (Ψ := tripQ K q.2) fun v H1 _ h => h.2) v9 (rp_neTrip G (hok q hq)))
    rw [keptQ_none fun _ _ => rfl] at hlc9
    refine s_ret (ev_op hlc9 (ev_lst ea_nil) rp_eqNil) fun v H10 e10 hv => ?_
    cases hv
    have ee := (((e6.trans e7).trans e8).trans e9).trans e10
    exact k H10 (kk5.same ee) (hp5.mono ee (by omega))
end
end K22

set_option Elab.async false
set_option linter.all false
set_option pp.maxSteps 400
set_option maxRecDepth 100000
set_option maxHeartbeats 4000000
/-! G11: the law: moved right. -/
namespace K22
open PySem PySem.Spec PyProof.Rows L2
section
variable {w : World} {K : PySem.W.Frag} {mg : Str → Option Value} {base : Heap} {H : Hp} {σ : L2.St} {te : TE} {T U : Tb} {p c : Addr} {N : Nat}
theorem ev_teq (h : EvP te σ H (tabQ K T)) (e : T = U) : EvP te σ H (tabQ K U) := e ▸ h
theorem d_draw {m : Int} {Q : VK} (h0 : σ[0]? = some (some (.ref p))) (he : EvP te σ H (is (.int m))) (hp : penAt N p c H) (hN : N ≤ 1000000) (m1 : 1 ≤ m) (m2 : m < 2 ^ 62) (k : ∀ i H', KeepX p H H' → penAt (N + 1) p c H' → 0 ≤ i → i < m → Q (.int i) H') :
    tF (spDraw 0) (tCons (tVar 0) (tCons te tNil)) σ H Q := by
  refine ⟨_, h0, he H (Same.refl _) _ fun v H1 e1 hv => ?_⟩
  cases hv
  exact ⟨p, c, m, N, rfl, hp.mono e1 (Nat.le_refl _), hN, m1, m2, fun i H' k' => k i H' (KeepX.trans (Same.keepX e1) k')⟩
theorem d_pickT {zs : List Str} {Q : VK} (h0 : σ[0]? = some (some (.ref p))) (he : EvP te σ H (tupF (txQ zs))) (hp : penAt N p c H) (hN : N ≤ 1000000) (hne : zs ≠ []) (hl : zs.length ≤ 1000) (k : ∀ z H', z ∈ zs → KeepX p H H' → penAt (N + 1) p c H' → Q (.str z) H') :
    tF (spPick K) (tCons (tVar 0) (tCons te tNil)) σ H Q := by
  refine ⟨_, h0, he H (Same.refl _) _ fun v H1 e1 ⟨a, o, vs, ev, hd, ha, hs⟩ => ?_⟩
  cases ev
  rw [txQ_all hs] at ha
  have hp1 := hp.mono e1 (Nat.le_refl _)
  have hap : a ≠ p := by
    obtain ⟨ns, t, r, h1, h2, _⟩ := hp1
    rintro rfl
    rw [h2] at ha
    cases ha
  refine ⟨p, c, a, N, _, rfl, hp1, hN, hap, .inr (SqT.frz ha), fun e => hne (by simpa using e), by rw [List.length_map]; exact hl, fun i v H' k' hp' hv => ?_⟩
  rw [List.getElem?_map] at hv
  cases q : zs[i]? with
  | none => rw [q] at hv; cases hv
  | some z =>
    rw [q] at hv
    cases hv
    exact k z H' (List.mem_of_getElem? q) (KeepX.trans (Same.keepX e1) k') hp'
theorem rp_getT (G : Fc K mg) (ok : T.Ok) {t : Tr} {z : Str} (ht : t ∈ T.rows) (hz : t.name = z) : RP (rGetO K (f_Table_getitem K) (spGet K)) (tabQ K T) (is (.str z)) H (tripQ K t) := fun H1 e x y hx hy Q k => by
  obtain ⟨ps, eT, hR⟩ := tab_R hx
  have hm : t ∈ trs ps := by rw [show trs ps = T.rows by rw [eT]]; exact ht
  obtain ⟨q, hq, e2⟩ := List.mem_map.mp hm
  obtain ⟨j, hj⟩ := List.getElem?_of_mem hq
  have hnd : (pnames ps).Nodup := by rw [Tb.Ok.pn eT]; exact ok.nd
  exact rp_getTab G (H := H1) hj (by rw [e2]; exact hz) hnd H1 (Same.refl _) x y hR hy Q fun v H2 e3 h => k v H2 e3 (by rw [← e2]; exact h.2)
theorem dtup_tx {zs : List Str} {a b : Addr} (ha : SqT K H a (zs.map V.str)) (hb : SqT K H b (zs.map V.str)) : DTup K DFlat (.ref a) (.ref b) H := by
  refine ⟨a, b, _, _, rfl, rfl, ha, hb, rfl, fun i x y h1 h2 => ?_⟩
  rw [h1] at h2
  cases h2
  obtain ⟨z, _, rfl⟩ := List.mem_map.mp (List.mem_of_getElem? h1)
  exact ⟨rfl, rfl, by simp [eqV]⟩
theorem rp_eqTx {zs : List Str} : RP (rEqG (DTup K DFlat)) (tupQ (txQ zs)) (tupQ (txQ zs)) H (is (.bl true)) := fun H1 e x y ⟨a, xs, hx, ha, hs⟩ ⟨b, ys, hy, hb, hs2⟩ Q k => by
  rw [txQ_all hs] at ha
  rw [txQ_all hs2] at hb
  cases hx
  cases hy
  exact ⟨dtup_tx (SqT.of ha) (SqT.of hb), fun H' e' => k _ H' e' rfl⟩
theorem rp_eqTxF {zs : List Str} : RP (rEqG (DTup K DFlat)) (tupF (txQ zs)) (tupF (txQ zs)) H (is (.bl true)) := fun H1 e x y ⟨a, o, xs, hx, hd, ha, hs⟩ ⟨b, o2, ys, hy, hd2, hb, hs2⟩ Q k => by
  rw [txQ_all hs] at ha
  rw [txQ_all hs2] at hb
  cases hx
  cases hy
  exact ⟨dtup_tx (SqT.frz ha) (SqT.frz hb), fun H' e' => k _ H' e' rfl⟩
end
section
variable {w : World} {K : PySem.W.Frag} {mg : Str → Option Value} {base : Heap}
abbrev NM : List Str := ["_law_pen_here", "_law_made", "_law_long", "_law_one", "_law_two", "_law_title", "_law_other", "_law_both"]
theorem sc_law_moved_right : FnScope NM ["_law_pen_here", "_law_made", "_law_long"] (defScope s_law_moved_right) := ⟨rfl, rfl, rfl, by decide +kernel, rfl, by decide +kernel, by decide +kernel⟩
theorem ok_law_moved_right (G : Fc K mg) : Fn R.prog w K mg base 10 (f_law_moved_right K) (spRight K 10) := by
  refine fnA G.d_law_moved_right sc_law_moved_right (fun _ _ _ _ _ _ us hl => match us, hl with | [_, _, _], _ => rfl) (fun vs H Q h => ?_) (fun vs H Q E h => h) (fun cdv A outer s H vs Q hr h => ?_)
  · obtain ⟨p, c, N, x, T, rfl, _⟩ := h
    rfl
  · obtain ⟨p, c, N, x, T, rfl, hp, hN, hx, ok, hd9, k⟩ := h
    have nd := sc_law_moved_right.nd
    refine ⟨_, pss_cons (ps_par (i := 3) (j := 4) rfl nd rfl rfl (by decide) rfl rfl (pa_cons (pe_op op_sub (pe_f (ok_law_draw G) hr G.g_law_draw G.d_law_draw.choose_spec.kp (pa_cons (pv 0) (pa_cons pe_int pa_nil))) pe_int)
          (pa_cons (pe_f (ok_law_pick G) hr G.g_law_pick G.d_law_pick.choose_spec.kp (pa_cons (pv 0) (pa_cons (pe_lst (pa_cons pe_int (pa_cons (pv 2) (pa_cons (pe_un un_neg (pv 2)) (pa_cons (pe_op op_pow pe_int pe_int) (pa_cons (pe_f (ok_law_draw G) hr G.g_law_draw G.d_law_draw.choose_spec.kp (pa_cons (pv 0) (pa_cons (pv 2) pa_nil))) pa_nil)))))) pa_nil))) pa_nil)) (by rfl)) <|
      pss_cons (ps_if (PW.pt (pw_or (pt_cmpR (op_neQ (ok_Table_eq G) hr) (pe_m hr (pe_m hr (pv 1) (pa_cons (pv 3) pa_nil)) (pa_cons (pv 4) pa_nil)) (pe_m hr (pv 1) (pa_cons (pe_op op_add (pv 3) (pv 4)) pa_nil)) (nomark _))
          (pw_or1 (pt_cmpR (op_neQ (ok_Table_eq G) hr) (pe_m hr (pe_m hr (pv 1) (pa_cons (pv 3) pa_nil)) (pa_cons (pe_op op_sub pe_int (pv 3)) pa_nil)) (pv 1) (nomark _))))) pss_never pss_nil) <|
      pss_cons (ps_if (PW.pt (pw_or (pt_cmpR (op_neQ (ok_Table_eq G) hr) (pe_m hr (pv 1) (pa_cons (pv 2) pa_nil)) (pv 1) (nomark _))
          (pw_or1 (pt_cmpR (op_neQ (ok_Table_eq G) hr) (pe_m hr (pv 1) (pa_cons (pe_op op_add (pv 3) (pv 2)) pa_nil)) (pe_m hr (pv 1) (pa_cons (pv 3) pa_nil)) (nomark _))))) pss_never pss_nil) <|
      pss_cons (ps_if (pt_cmpR op_gt (pe_callB (call_lenQ (ok_Table_len G) hr) (by rfl) G.b_len PySem.boot_len (pa_cons (pv 1) pa_nil)) pe_int (nomark _))
        (pss_cons (ps_par (i := 5) (j := 6) rfl nd rfl rfl (by decide) rfl rfl (pa_cons (pe_f (ok_law_pick G) hr G.g_law_pick G.d_law_pick.choose_spec.kp (pa_cons (pv 0) (pa_cons (pe_fld (pv 1) rfl) pa_nil))) (pa_cons (pe_f (ok_law_pick G) hr G.g_law_pick G.d_law_pick.choose_spec.kp (pa_cons (pv 0) (pa_cons (pe_fld (pv 1) rfl) pa_nil))) pa_nil)) (by rfl)) <|
         pss_cons (ps_set (i := 7) nd rfl (Or.inl rfl) (pe_m hr (pv 1) (pa_cons (pv 3) (pa_cons (pv 5) (pa_cons (pv 6) pa_nil))))) <|
         pss_cons (ps_if (PW.pt (pw_or (PW.pt (pw_and (pt_cmpR op_ne (pv 5) (pv 6) (nomark _)) (pw_and1 (pt_cmpR (op_neQ (ok_Table_eq G) hr) (pe_m hr (pe_m hr (pv 1) (pa_cons (pv 3) (pa_cons (pv 5) pa_nil))) (pa_cons (pv 3) (pa_cons (pv 6) pa_nil))) (pv 7) (nomark _)))))
            (pw_or1 (pt_cmpR (op_neQ (ok_Table_eq G) hr) (pv 7) (pe_m hr (pv 1) (pa_cons (pv 3) (pa_cons (pv 6) (pa_cons (pv 5) pa_nil)))) (nomark _))))) pss_never pss_nil) <|
         pss_cons (ps_if (PW.pt (pw_or (pt_cmpR (op_neQ (ok_Table_eq G) hr) (pe_m hr (pv 1) (pa_cons (pv 3) (pa_cons (pv 5) (pa_cons (pv 5) pa_nil)))) (pe_m hr (pv 1) (pa_cons (pv 3) (pa_cons (pv 5) pa_nil))) (nomark _))
            (pw_or1 (pt_cmpR (op_neQ (ok_Table_eq G) hr) (pe_m hr (pv 7) (pa_cons (pe_op op_sub pe_int (pv 3)) (pa_cons (pv 6) (pa_cons (pv 5) pa_nil)))) (pv 1) (nomark _))))) pss_never pss_nil) <|
         pss_one (ps_if (pt_cmpR op_ne (pe_fld (pe_ixO (ok_Table_getitem G) hr (pe_m hr (pv 1) (pa_cons (pv 3) (pa_cons (pv 5) pa_nil))) (pv 5)) rfl) (pe_fld (pe_ixO (ok_Table_getitem G) hr (pe_m hr (pv 1) (pa_cons (pv 3) pa_nil)) (pv 5)) rfl) (nomark _)) pss_never pss_nil)) pss_nil) <|
      pss_one (ps_ret (pe_and (pe_cmpR (op_eqG (rcG_tup mon_flat (eqG_flat.mono (Nat.zero_le 8))) hr) (pe_fld (pe_m hr (pv 1) (pa_cons (pv 3) pa_nil)) rfl) (pe_fld (pv 1) rfl) (nomark _))
        (pe_one (pe_cmpR (op_eqG (rcG_tup mon_flat (eqG_flat.mono (Nat.zero_le 8))) hr) (pe_fld (pe_m hr (pv 1) (pa_cons (pv 3) pa_nil)) rfl) (pe_fld (pv 1) rfl) (nomark _))))), ?_⟩
    obtain ⟨a, dx, fs, rfl, ha⟩ := tabQ_ins hx
    have hd1 := ok.d0
    have mm : ∀ (T' : Tb) (j : Int) (zs : List Str) (H' : Hp), T'.Ok → (∀ z ∈ zs, z ∈ T'.names) → zs.length ≤ 60 → MethP (cxOf CX0 R.prog w K mg base NM "_law_moved_right" (defScope s_law_moved_right) (f_law_moved_right K) cdv A outer s H E0).nox 9 "moved" (tabQ K T') (is (.int j) :: txQ zs) H' (tabQ K (T'.mv j zs)) := fun T' j zs H' o hz hl => mp_moved G ⟨rfl, rfl, rfl⟩ o hz hl
    have m0 : ∀ (T' : Tb) (j : Int) (H' : Hp), T'.Ok → MethP (cxOf CX0 R.prog w K mg base NM "_law_moved_right" (defScope s_law_moved_right) (f_law_moved_right K) cdv A outer s H E0).nox 9 "moved" (tabQ K T') [is (.int j)] H' (tabQ K (T'.mv j [])) := fun T' j H' o => mm T' j [] H' o (fun z h => absurd h List.not_mem_nil) (by decide)
    -- one, two
    refine d_draw rfl (ev_k (v := .int 99)) hp (by omega) (by decide) (by decide) fun i1 H1 k1 hp1 a0 a1 => ?_
    refine ⟨i1, 50, rfl, rfl, ?_⟩
    refine ⟨_, rfl, ?_⟩
    refine ⟨_, rfl, _, rfl, T.day, rfl, 10, 40, rfl, rfl, ⟨by decide, by decide, by decide⟩, ?_⟩
    refine d_draw rfl (ev_v (i := 2) (v := .int T.day) rfl) hp1 (by omega) hd1 (by omega) fun i2 H2 k2 hp2 b0 b1 => ?_
    refine ⟨by show 5 ≤ sizeLine; decide, fun q hq => ?_⟩
    have e3 := same_new (o := .lst [V.int 0, V.int T.day, V.int (-T.day), V.int (10 ^ (40 : Int).toNat), V.int i2]) hq
    have hqp : q ≠ p := by
      obtain ⟨o, ho⟩ := hp2.hasP
      rintro rfl
      rw [ho] at hq
      cases hq
    refine ⟨p, c, q, N + 2, _, rfl, hp2.mono e3 (Nat.le_refl _), by omega, hqp, .inl upd_same, List.cons_ne_nil _ _, (by show 5 ≤ 1000; decide), fun i v H3 k3 hp3 hv => ?_⟩
    have hn : ∃ n : Int, v = .int n := by
      have hm := List.mem_of_getElem? hv
      simp only [List.mem_cons, List.not_mem_nil, or_false] at hm
      rcases hm with rfl | rfl | rfl | rfl | rfl <;> exact ⟨_, rfl⟩
    obtain ⟨two, rfl⟩ := hn
    refine ⟨_, _, rfl, ?_⟩
    have nl3 : NL H H3 := (((nl_draw k1 hp hp1).trans (nl_draw k2 hp1 hp2)).trans (nl_same e3)).trans (nl_draw k3 (hp2.mono e3 (Nat.le_refl _)) hp3)
    have kk3 : KeepX p H H3 := KeepX.trans (KeepX.trans (KeepX.trans k1 k2) (Same.keepX e3)) k3
    have hx3 : tabQ K T (.ref a) H3 := Stab.st nl3 hx
    show tSeq _ _ _ [some (.ref p), some (.ref a), some (.int T.day), some (.int (i1 - 50)), some (.int two), none, none, none] H3
    generalize i1 - 50 = one
    have v1 : ∀ (σ : L2.St) (H' : Hp), σ[1]? = some (some (.ref a)) → Same H3 H' → EvP (tVar 1) σ H' (tabQ K T) := fun σ H' h e => ev_var h (Mono.mono e hx3)
    have vone : ∀ (σ : L2.St) (H' : Hp), σ[3]? = some (some (.int one)) → EvP (tVar 3) σ H' (is (.int one)) := fun σ H' h => ev_v h
    have s0 := Same.refl H3
    refine s_skip (et_or (et_test (ev_op (ev_teq (ev_m (ev_m (v1 _ _ rfl s0) (ea_cons (vone _ _ rfl) ea_nil) (m0 T one _ ok)) (ea_cons (ev_v (i := 4) (v := .int two) rfl) ea_nil) (m0 _ two _ ok.mv)) mv_mv)
        (ev_m (v1 _ _ rfl s0) (ea_cons (ev_op (vone _ _ rfl) (ev_v (i := 4) (v := .int two) rfl) (rp_I0 (g := fun i j => .int (i + j)))) ea_nil) (m0 T (one + two) _ ok)) (rp_neTab G ok.mv))) fun _ =>
      et_test (ev_op (ev_teq (ev_m (ev_m (v1 _ _ rfl s0) (ea_cons (vone _ _ rfl) ea_nil) (m0 T one _ ok)) (ea_cons (ev_op (ev_k (v := .int 0)) (vone _ _ rfl) (rp_I0 (g := fun i j => .int (i - j)))) ea_nil) (m0 _ (0 - one) _ ok.mv)) (mv_back ok)) (v1 _ _ rfl s0) (rp_neTab G ok))) fun H4 e4 => ?_
    refine s_skip (et_or (et_test (ev_op (ev_teq (ev_m (v1 _ _ rfl e4) (ea_cons (ev_v (i := 2) (v := .int T.day) rfl) ea_nil) (m0 T T.day _ ok)) (mv_day ok)) (v1 _ _ rfl e4) (rp_neTab G ok))) fun _ =>
      et_test (ev_op (ev_teq (ev_m (v1 _ _ rfl e4) (ea_cons (ev_op (vone _ _ rfl) (ev_v (i := 2) (v := .int T.day) rfl) (rp_I0 (g := fun i j => .int (i + j)))) ea_nil) (m0 T (one + T.day) _ ok)) mv_add_day) (ev_m (v1 _ _ rfl e4) (ea_cons (vone _ _ rfl) ea_nil) (m0 T one _ ok)) (rp_neTab G ok.mv))) fun H5 e5 => ?_
    have e35 := e4.trans e5
    have fin : ∀ (σ : L2.St) (H' : Hp), σ[1]? = some (some (.ref a)) → σ[3]? = some (some (.int one)) → tabQ K T (.ref a) H' → (∀ H2, Same H' H2 → Q (.bl true) H2) → tRet (tAndV (tOp (rEqG (DTup K DFlat)) (tFld K (tM (cxOf CX0 R.prog w K mg base NM "_law_moved_right" (defScope s_law_moved_right) (f_law_moved_right K) cdv A outer s H E0).nox 9 "moved" (tVar 1) (tCons (tVar 3) tNil)) "names") (tFld K (tVar 1) "names")) (tOp (rEqG (DTup K DFlat)) (tFld K (tM (cxOf CX0 R.prog w K mg base NM "_law_moved_right" (defScope s_law_moved_right) (f_law_moved_right K) cdv A outer s H E0).nox 9 "moved" (tVar 1) (tCons (tVar 3) tNil)) "places") (tFld K (tVar 1) "places"))) { nx := fun _ H' => Q .non H', rt := Q } σ H' := fun σ H' h1 h3 hx' kq => by
      have w1 : EvP (tVar 1) σ H' (tabQ K T) := ev_var h1 hx'
      have wm := ev_m w1 (ea_cons (vone _ H' h3) ea_nil) (m0 T one _ ok)
      have wn := ev_Tnames G wm
      rw [mv_names] at wn
      have wp := ev_Tplaces G wm
      rw [mv_places] at wp
      refine s_ret (ev_andV (ev_op wn (ev_Tnames G w1) rp_eqTxF) fun _ => ev_op wp (ev_Tplaces G w1) rp_eqTx) fun v H2 e2 hv => ?_
      cases hv
      exact kq H2 e2
    refine s_if (et_test (ev_op (ev_cb (ea_cons (v1 _ _ rfl e35) ea_nil) (cp_lenTab G ok)) (ev_k (v := .int 0)) (rp_I0 (g := fun i j => .bl (decide (j < i)))))) (fun hb H6 e6 => ?_) (fun hb H6 e6 => ?_)
    · have hlen : 0 < T.rows.length := by
        have := of_decide_eq_true hb
        omega
      have e36 := e35.trans e6
      have hp6 := hp3.mono e36 (Nat.le_refl _)
      have hne : T.names ≠ [] := by
        intro e
        have := congrArg List.length e
        unfold Tb.names at this
        rw [List.length_map] at this
        simp at this
        rw [this] at hlen
        exact absurd hlen (by decide)
      have hl31 : T.names.length ≤ 1000 := by unfold Tb.names; rw [List.length_map]; exact Nat.le_trans ok.len (by decide)
      refine d_pickT rfl (ev_Tnames G (v1 _ _ rfl e36)) hp6 (by omega) hne hl31 fun z1 H7 hz1 k7 hp7 => ?_
      have nl7 : NL H6 H7 := nl_draw k7 hp6 hp7
      have hx7 : tabQ K T (.ref a) H7 := Stab.st nl7 (Mono.mono e36 hx3)
      refine d_pickT rfl (ev_Tnames G (ev_var (i := 1) rfl hx7)) hp7 (by omega) hne hl31 fun z2 H8 hz2 k8 hp8 => ?_
      refine ⟨_, _, rfl, ?_⟩
      have hx8 : tabQ K T (.ref a) H8 := Stab.st (nl_draw k8 hp7 hp8) hx7
      have kk8 : KeepX p H H8 := KeepX.trans (KeepX.trans (kk3.same e36) k7) k8
      have u1 : ∀ (σ : L2.St) (H' : Hp), σ[1]? = some (some (.ref a)) → Same H8 H' → EvP (tVar 1) σ H' (tabQ K T) := fun σ H' h e => ev_var h (Mono.mono e hx8)
      have u5 : ∀ (σ : L2.St) (H' : Hp), σ[5]? = some (some (.str z1)) → EvP (tVar 5) σ H' (is (.str z1)) := fun σ H' h => ev_v h
      have u6 : ∀ (σ : L2.St) (H' : Hp), σ[6]? = some (some (.str z2)) → EvP (tVar 6) σ H' (is (.str z2)) := fun σ H' h => ev_v h
      have q0 := Same.refl H8
      have sub1 : ∀ z ∈ [z1], z ∈ T.names := fun z h => by rw [List.mem_singleton.mp h]; exact hz1
      have sub2 : ∀ z ∈ [z2], z ∈ T.names := fun z h => by rw [List.mem_singleton.mp h]; exact hz2
      have sub12 : ∀ z ∈ [z1, z2], z ∈ T.names := fun z h => by
        simp only [List.mem_cons, List.not_mem_nil, or_false] at h
        rcases h with rfl | rfl
        · exact hz1
        · exact hz2
      have sub21 : ∀ z ∈ [z2, z1], z ∈ T.names := fun z h => by
        simp only [List.mem_cons, List.not_mem_nil, or_false] at h
        rcases h with rfl | rfl
        · exact hz2
        · exact hz1
      have sub11 : ∀ z ∈ [z1, z1], z ∈ T.names := fun z h => by
        simp only [List.mem_cons, List.not_mem_nil, or_false] at h
        rcases h with rfl | rfl <;> exact hz1
      refine s_set (ev_m (u1 _ _ rfl q0) (ea_cons (vone _ _ rfl) (ea_cons (u5 _ _ rfl) (ea_cons (u6 _ _ rfl) ea_nil))) (mm T one [z1, z2] _ ok sub12 (Nat.le_of_ble_eq_true rfl))) fun both H9 e9 hb9 => ?_
      have okb := ok.mv (k := one) (zs := [z1, z2])
      have u7 : ∀ (σ : L2.St) (H' : Hp), σ[7]? = some (some both) → Same H9 H' → EvP (tVar 7) σ H' (tabQ K (T.mv one [z1, z2])) := fun σ H' h e => ev_var h (Mono.mono e hb9)
      refine s_skip (et_eq (et_or (et_and (et_test (ev_op (u5 _ _ rfl) (u6 _ _ rfl) (rp_ne rfl))) fun hd => et_test (ev_op (ev_teq (ev_m (ev_m (u1 _ _ rfl e9) (ea_cons (vone _ _ rfl) (ea_cons (u5 _ _ rfl) ea_nil)) (mm T one [z1] _ ok sub1 (Nat.le_of_ble_eq_true rfl))) (ea_cons (vone _ _ rfl) (ea_cons (u6 _ _ rfl) ea_nil)) (mm _ one [z2] _ ok.mv (by rw [mv_names]; exact sub2) (Nat.le_of_ble_eq_true rfl))) (mv_two fun e => by rw [e] at hd; simp at hd)) (u7 _ _ rfl (Same.refl _)) (rp_neTab G okb))) fun _ =>
        et_test (ev_op (u7 _ _ rfl (Same.refl _)) (ev_teq (ev_m (u1 _ _ rfl e9) (ea_cons (vone _ _ rfl) (ea_cons (u6 _ _ rfl) (ea_cons (u5 _ _ rfl) ea_nil))) (mm T one [z2, z1] _ ok sub21 (Nat.le_of_ble_eq_true rfl))) mv_swap) (rp_neTab G okb))) (by simp)) fun H10 e10 => ?_
      refine s_skip (et_or (et_test (ev_op (ev_teq (ev_m (u1 _ _ rfl (e9.trans e10)) (ea_cons (vone _ _ rfl) (ea_cons (u5 _ _ rfl) (ea_cons (u5 _ _ rfl) ea_nil))) (mm T one [z1, z1] _ ok sub11 (Nat.le_of_ble_eq_true rfl))) mv_dup) (ev_m (u1 _ _ rfl (e9.trans e10)) (ea_cons (vone _ _ rfl) (ea_cons (u5 _ _ rfl) ea_nil)) (mm T one [z1] _ ok sub1 (Nat.le_of_ble_eq_true rfl))) (rp_neTab G ok.mv))) fun _ =>
        et_test (ev_op (ev_teq (ev_m (u7 _ _ rfl e10) (ea_cons (ev_op (ev_k (v := .int 0)) (vone _ _ rfl) (rp_I0 (g := fun i j => .int (i - j)))) (ea_cons (u6 _ _ rfl) (ea_cons (u5 _ _ rfl) ea_nil))) (mm _ (0 - one) [z2, z1] _ okb (by rw [mv_names]; exact sub21) (Nat.le_of_ble_eq_true rfl))) (by rw [mv_swap, mv_back ok])) (u1 _ _ rfl (e9.trans e10)) (rp_neTab G ok))) fun H11 e11 => ?_
      have e911 := (e9.trans e10).trans e11
      obtain ⟨t, ht, htn⟩ := List.mem_map.mp hz1
      have ht1 : mvT T.day one [z1] t ∈ (T.mv one [z1]).rows := List.mem_map_of_mem ht
      have ht0 : mvT T.day one [] t ∈ (T.mv one []).rows := List.mem_map_of_mem ht
      have g1 := ev_tleaves G (ev_op (ev_m (u1 [some (.ref p), some (.ref a), some (.int T.day), some (.int one), some (.int two), some (.str z1), some (.str z2), some both] H11 rfl e911) (ea_cons (vone _ _ rfl) (ea_cons (u5 _ _ rfl) ea_nil)) (mm T one [z1] _ ok sub1 (Nat.le_of_ble_eq_true rfl))) (u5 _ _ rfl) (rp_getT G ok.mv ht1 (by rw [mvT_name]; exact htn)))
      have g0 := ev_tleaves G (ev_op (ev_m (u1 [some (.ref p), some (.ref a), some (.int T.day), some (.int one), some (.int two), some (.str z1), some (.str z2), some both] H11 rfl e911) (ea_cons (vone _ _ rfl) ea_nil) (m0 T one _ ok)) (u5 _ _ rfl) (rp_getT G ok.mv ht0 (by rw [mvT_name]; exact htn)))
      rw [mv_at htn] at g1
      refine s_skip1 (et_eq (et_test (ev_op g1 g0 (rp_ne rfl))) (by simp)) fun H12 e12 => ?_
      have e812 := e911.trans e12
      exact fin _ H12 rfl rfl (Mono.mono e812 hx8) fun H2 e2 => k H2 (kk8.same (e812.trans e2)) (hp8.mono (e812.trans e2) (by omega))
    · have e36 := e35.trans e6
      exact fin _ H6 rfl rfl (Mono.mono e36 hx3) fun H2 e2 => k H2 (kk3.same (e36.trans e2)) (hp3.mono (e36.trans e2) (by omega))
end
end K22

set_option Elab.async false
set_option linter.all false
set_option pp.maxSteps 400
set_option maxRecDepth 100000
set_option maxHeartbeats 4000000
/-! G12: the law: scaled right. -/
namespace K22
open PySem PySem.Spec PyProof.Rows L2
section
variable {w : World} {K : PySem.W.Frag} {mg : Str → Option Value} {base : Heap}
abbrev NS : List Str := ["_law_pen_here", "_law_made", "_law_one", "_law_two", "_law_both", "_law_step"]
theorem sc_law_scaled_right : FnScope NS ["_law_pen_here", "_law_made"] (defScope s_law_scaled_right) := ⟨rfl, rfl, rfl, by decide +kernel, rfl, by decide +kernel, by decide +kernel⟩
theorem scale_ok {T : Tb} (ok : T.Ok) (hd : T.day ≤ 1000000000) (ht : ∀ t ∈ T.rows, t.takes ≤ 2000000001) {k : Int} (k1 : 1 ≤ k) (k2 : k ≤ 81) : (T.sc k).Ok := by
  have d0 := ok.d0
  have h1 : T.day * k ≤ 1000000000 * 81 := Int.mul_le_mul hd k2 (by omega) (by decide)
  refine ok.sc k1 (by omega) fun t h => ?_
  have h2 : t.takes * k ≤ 2000000001 * 81 := Int.mul_le_mul (ht t h) k2 (by omega) (by decide)
  omega
def spScR (K : PySem.W.Frag) (d : Nat) : Sp := fun vs H Q _ => ∃ (p c : Addr) (N : Nat) (x : V) (T : Tb), vs = [.ref p, x] ∧ penAt N p c H ∧ N + d ≤ 1000000 ∧ tabQ K T x H ∧ T.Ok ∧ T.day ≤ 1000000000 ∧ (∀ t ∈ T.rows, t.takes ≤ 2000000001) ∧ ∀ H', KeepX p H H' → penAt (N + d) p c H' → Q (.bl true) H'
theorem ok_law_scaled_right (G : Fc K mg) : Fn R.prog w K mg base 10 (f_law_scaled_right K) (spScR K 10) := by
  refine fnA G.d_law_scaled_right sc_law_scaled_right (fun _ _ _ _ _ _ us hl => match us, hl with | [_, _], _ => rfl) (fun vs H Q h => ?_) (fun vs H Q E h => h) (fun cdv A outer s H vs Q hr h => ?_)
  · obtain ⟨p, c, N, x, T, rfl, _⟩ := h
    rfl
  · obtain ⟨p, c, N, x, T, rfl, hp, hN, hx, ok, hd9, ht9, k⟩ := h
    have nd := sc_law_scaled_right.nd
    refine ⟨_, pss_cons (ps_par (i := 2) (j := 3) rfl nd rfl rfl (by decide) rfl rfl (pa_cons (pe_op op_add pe_int (pe_f (ok_law_draw G) hr G.g_law_draw G.d_law_draw.choose_spec.kp (pa_cons (pv 0) (pa_cons pe_int pa_nil))))
          (pa_cons (pe_op op_add pe_int (pe_f (ok_law_draw G) hr G.g_law_draw G.d_law_draw.choose_spec.kp (pa_cons (pv 0) (pa_cons pe_int pa_nil)))) pa_nil)) (by rfl)) <|
      pss_cons (ps_set (i := 4) nd rfl (Or.inl rfl) (pe_m hr (pe_m hr (pv 1) (pa_cons (pv 2) pa_nil)) (pa_cons (pv 3) pa_nil))) <|
      pss_cons (ps_if (PW.pt (pw_or (pt_cmpR (op_neQ (ok_Table_eq G) hr) (pv 4) (pe_m hr (pv 1) (pa_cons (pe_op op_mul (pv 2) (pv 3)) pa_nil)) (nomark _))
          (pw_or (pt_cmpR (op_neQ (ok_Table_eq G) hr) (pe_m hr (pv 1) (pa_cons pe_int pa_nil)) (pv 1) (nomark _))
            (pw_or1 (pt_cmpR op_ne (pe_fld (pe_fld (pv 4) rfl) rfl) (pe_op op_mul (pe_op op_mul (pe_fld (pe_fld (pv 1) rfl) rfl) (pv 2)) (pv 3)) (nomark _)))))) pss_never pss_nil) <|
      pss_cons (ps_set (i := 5) nd rfl (Or.inl rfl) (pe_f (ok_law_draw G) hr G.g_law_draw G.d_law_draw.choose_spec.kp (pa_cons (pv 0) (pa_cons pe_int pa_nil)))) <|
      pss_one (ps_ret (pe_and (pe_cmpR (op_cmpO (op := .Eq) (ok_Table_eq G) hr) (pe_m hr (pe_m hr (pv 1) (pa_cons (pv 5) pa_nil)) (pa_cons (pv 2) pa_nil)) (pe_m hr (pe_m hr (pv 1) (pa_cons (pv 2) pa_nil)) (pa_cons (pe_op op_mul (pv 5) (pv 2)) pa_nil)) (nomark _))
        (pe_one (pe_cmpR (op_eqG (rcG_tup mon_flat (eqG_flat.mono (Nat.zero_le 8))) hr) (pe_fld (pv 4) rfl) (pe_fld (pv 1) rfl) (nomark _))))), ?_⟩
    obtain ⟨a, dx, fs, rfl, ha⟩ := tabQ_ins hx
    have hd1 := ok.d0
    have ms : ∀ (T' : Tb) (j : Int) (H' : Hp), T'.Ok → (T'.sc j).Ok → 1 ≤ j → j ≤ 1000000000000 → MethP (cxOf CX0 R.prog w K mg base NS "_law_scaled_right" (defScope s_law_scaled_right) (f_law_scaled_right K) cdv A outer s H E0).nox 9 "scaled" (tabQ K T') [is (.int j)] H' (tabQ K (T'.sc j)) := fun T' j H' o o2 h1 h2 => mp_scaled G ⟨rfl, rfl, rfl⟩ o o2 h1 h2
    have m0 : ∀ (T' : Tb) (j : Int) (H' : Hp), T'.Ok → MethP (cxOf CX0 R.prog w K mg base NS "_law_scaled_right" (defScope s_law_scaled_right) (f_law_scaled_right K) cdv A outer s H E0).nox 9 "moved" (tabQ K T') [is (.int j)] H' (tabQ K (T'.mv j [])) := fun T' j H' o => mp_moved (zs := []) G ⟨rfl, rfl, rfl⟩ o (fun z h => absurd h List.not_mem_nil)
    refine d_draw rfl (ev_k (v := .int 9)) hp (by omega) (by decide) (by decide) fun i1 H1 k1 hp1 a0 a1 => ?_
    refine ⟨1, i1, rfl, rfl, ?_⟩
    refine d_draw rfl (ev_k (v := .int 9)) hp1 (by omega) (by decide) (by decide) fun i2 H2 k2 hp2 b0 b1 => ?_
    refine ⟨1, i2, rfl, rfl, ?_⟩
    refine ⟨_, _, rfl, ?_⟩
    show tSeq _ _ _ [some (.ref p), some (.ref a), some (.int (1 + i1)), some (.int (1 + i2)), none, none] H2
    have nl2 : NL H H2 := (nl_draw k1 hp hp1).trans (nl_draw k2 hp1 hp2)
    have kk2 : KeepX p H H2 := KeepX.trans k1 k2
    have hx2 : tabQ K T (.ref a) H2 := Stab.st nl2 hx
    have one1 : 1 ≤ 1 + i1 := by omega
    have one2 : 1 + i1 ≤ 9 := by omega
    have two1 : 1 ≤ 1 + i2 := by omega
    have two2 : 1 + i2 ≤ 9 := by omega
    generalize 1 + i1 = one at one1 one2
    generalize 1 + i2 = two at two1 two2
    have p1 : 1 * 1 ≤ one * two := Int.mul_le_mul one1 two1 (by decide) (by omega)
    have p2 : one * two ≤ 9 * 9 := Int.mul_le_mul one2 two2 (by omega) (by decide)
    have ok1 : (T.sc one).Ok := scale_ok ok hd9 ht9 one1 (by omega)
    have ok2 : (T.sc (one * two)).Ok := scale_ok ok hd9 ht9 (by omega) (by omega)
    have ok12 : ((T.sc one).sc two).Ok := by rw [sc_sc]; exact ok2
    have v1 : ∀ (σ : L2.St) (H' : Hp), σ[1]? = some (some (.ref a)) → Same H2 H' → EvP (tVar 1) σ H' (tabQ K T) := fun σ H' h e => ev_var h (Mono.mono e hx2)
    have v2 : ∀ (σ : L2.St) (H' : Hp), σ[2]? = some (some (.int one)) → EvP (tVar 2) σ H' (is (.int one)) := fun σ H' h => ev_v h
    have v3 : ∀ (σ : L2.St) (H' : Hp), σ[3]? = some (some (.int two)) → EvP (tVar 3) σ H' (is (.int two)) := fun σ H' h => ev_v h
    have s0 := Same.refl H2
    refine s_set (ev_teq (ev_m (ev_m (v1 _ _ rfl s0) (ea_cons (v2 _ _ rfl) ea_nil) (ms T one _ ok ok1 one1 (by omega))) (ea_cons (v3 _ _ rfl) ea_nil) (ms _ two _ ok1 ok12 two1 (by omega))) sc_sc) fun both H3 e3 hb => ?_
    have v4 : ∀ (σ : L2.St) (H' : Hp), σ[4]? = some (some both) → Same H3 H' → EvP (tVar 4) σ H' (tabQ K (T.sc (one * two))) := fun σ H' h e => ev_var h (Mono.mono e hb)
    have cm1 : ∀ i : Int, CMul i one := fun i => .inr ⟨by omega, by omega⟩
    have cm2 : ∀ i : Int, CMul i two := fun i => .inr ⟨by omega, by omega⟩
    refine s_skip (et_eq (et_or (et_test (ev_op (v4 _ _ rfl (Same.refl _)) (ev_m (v1 _ _ rfl e3) (ea_cons (ev_op (v2 _ _ rfl) (v3 _ _ rfl) (rp_I (g := fun i j => .int (i * j)) (cm2 _))) ea_nil) (ms T (one * two) _ ok ok2 (by omega) (by omega))) (rp_neTab G ok2))) fun _ =>
      et_or (et_test (ev_op (ev_teq (ev_m (v1 _ _ rfl e3) (ea_cons ev_k ea_nil) (ms T 1 _ ok (by rw [sc_one]; exact ok) (by decide) (by decide))) sc_one) (v1 _ _ rfl e3) (rp_neTab G ok))) fun _ =>
      et_test (ev_op (ev_Dlen G (ev_Tday G (v4 _ _ rfl (Same.refl _)))) (ev_op (ev_op (ev_Dlen G (ev_Tday G (v1 _ _ rfl e3))) (v2 _ _ rfl) (rp_I (g := fun i j => .int (i * j)) (cm1 _))) (v3 _ _ rfl) (rp_I (g := fun i j => .int (i * j)) (cm2 _))) (rp_ne rfl))) (by
        rw [show (T.sc (one * two)).day = T.day * one * two from (Int.mul_assoc _ _ _).symm]
        simp)) fun H4 e4 => ?_
    have e24 := e3.trans e4
    have hp4 := hp2.mono e24 (Nat.le_refl _)
    refine d_draw rfl (ev_k (v := .int 50)) hp4 (by omega) (by decide) (by decide) fun st H5 k5 hp5 c0 c1 => ?_
    have nl5 : NL H4 H5 := nl_draw k5 hp4 hp5
    have hx5 : tabQ K T (.ref a) H5 := Stab.st nl5 (Mono.mono e24 hx2)
    have hb5 : tabQ K (T.sc (one * two)) both H5 := Stab.st nl5 (Mono.mono e4 hb)
    have w1 : EvP (tVar 1) [some (.ref p), some (.ref a), some (.int one), some (.int two), some both, some (.int st)] H5 (tabQ K T) := ev_var rfl hx5
    have w4 : EvP (tVar 4) [some (.ref p), some (.ref a), some (.int one), some (.int two), some both, some (.int st)] H5 (tabQ K (T.sc (one * two))) := ev_var rfl hb5
    have wn := ev_Tnames G w4
    rw [sc_names] at wn
    have okm : ((T.mv st []).sc one).Ok := by rw [sc_mv (by omega)]; exact ok1.mv
    refine s_ret (ev_andV (ev_op (ev_m (ev_m w1 (ea_cons (ev_v (i := 5) rfl) ea_nil) (m0 T st _ ok)) (ea_cons (v2 _ _ rfl) ea_nil) (ms _ one _ ok.mv okm one1 (by omega)))
        (ev_teq (ev_m (ev_m w1 (ea_cons (v2 _ _ rfl) ea_nil) (ms T one _ ok ok1 one1 (by omega))) (ea_cons (ev_op (ev_v (i := 5) (v := .int st) rfl) (v2 _ _ rfl) (rp_I (g := fun i j => .int (i * j)) (cm1 _))) ea_nil) (m0 _ (st * one) _ ok1)) (sc_mv (by omega)).symm) (rp_eqTab G okm)) fun _ => ev_op wn (ev_Tnames G w1) rp_eqTxF) fun v H6 e6 hv => ?_
    cases hv
    exact k H6 ((KeepX.trans (kk2.same e24) k5).same e6) (hp5.mono e6 (by omega))
end
end K22

set_option Elab.async false
set_option linter.all false
set_option pp.maxSteps 400
set_option maxRecDepth 100000
set_option maxHeartbeats 4000000
/-! M5: plain: loops beside a table. -/
namespace K22
open PySem PySem.Spec PyProof.Rows L2
theorem nodup_le : ∀ {l m : List Str}, l.Nodup → (∀ z ∈ l, z ∈ m) → l.length ≤ m.length
  | [], _, _, _ => Nat.zero_le _
  | x :: l, m, nd, h => by
    obtain ⟨n1, n2⟩ := List.nodup_cons.mp nd
    have hx := h x (.head _)
    have ih := nodup_le (m := m.erase x) n2 fun z hz => (List.mem_erase_of_ne (fun e => n1 (by rw [← e]; exact hz))).mpr (h z (.tail _ hz))
    rw [List.length_erase_of_mem hx] at ih
    have := List.length_pos_of_mem hx
    rw [List.length_cons]
    omega
theorem places_mem {ts : List Tr} {z : Str} : z ∈ places ts ↔ ∃ t ∈ ts, z = t.start ∨ z = t.goal := by
  unfold places
  rw [uniqT_mem, mem_ends]
theorem mkT_congr {n : Int} {ts us : List Tr} (d0 : 1 ≤ n) (d1 : n ≤ 1000000000000) (h : RowsOk n ts) (p : ts.Perm us) : mkT n ts = mkT n us :=
  tb_ext (mkT_ok d0 d1 h) (mkT_ok d0 d1 (h.perm p)) rfl (mkT_perm.symm.trans (p.trans mkT_perm))
def isLoop (T : Tb) (t : Tr) : Prop := t.Ok ∧ t.leaves < T.day ∧ t.start = "new" ∧ t.goal = "new" ∧ t.name ∉ T.names
theorem RowsOk.loops {T : Tb} (ok : T.Ok) (hl : T.rows.length ≤ 20) (hp : (places T.rows).length ≤ 7) {L : List Tr} (hL : L.length ≤ 2) (h : ∀ t ∈ L, isLoop T t) (nd : (L.map (·.name)).Nodup) : RowsOk T.day (T.rows ++ L) where
  tr := fun t ht => by
    rcases List.mem_append.mp ht with ht | ht
    · exact ok.tr t ht
    · exact (h t ht).1
  lv := fun t ht => by
    rcases List.mem_append.mp ht with ht | ht
    · exact ok.lv t ht
    · exact (h t ht).2.1
  nd := by
    rw [List.map_append]
    refine List.nodup_append.mpr ⟨strict_nd ok.srt, nd, fun x hx y hy e => ?_⟩
    obtain ⟨t, ht, rfl⟩ := List.mem_map.mp hy
    subst e
    exact (h t ht).2.2.2.2 hx
  len := by
    rw [List.length_append]
    omega
  bal := balT_app ok.bal (by
    rw [show L.map (·.goal) = L.map (·.start) from List.map_congr_left fun t ht => by rw [(h t ht).2.2.1, (h t ht).2.2.2.1]])
  few := by
    have := nodup_le (l := places (T.rows ++ L)) (m := "new" :: places T.rows) (strict_nd (uniqT_strict _)) fun z hz => by
      obtain ⟨t, ht, e⟩ := places_mem.mp hz
      rcases List.mem_append.mp ht with ht | ht
      · exact .tail _ (places_mem.mpr ⟨t, ht, e⟩)
      · rcases e with e | e
        · rw [e, (h t ht).2.2.1]; exact .head _
        · rw [e, (h t ht).2.2.2.1]; exact .head _
    rw [List.length_cons] at this
    omega
theorem empty_ok {n : Int} (d0 : 1 ≤ n) (d1 : n ≤ 1000000000000) : Tb.Ok ⟨n, []⟩ where
  d0 := d0
  d1 := d1
  tr := fun t h => absurd h List.not_mem_nil
  lv := fun t h => absurd h List.not_mem_nil
  srt := .nil
  len := Nat.zero_le _
  bal := fun z => rfl
  few := (show (places []).length ≤ 8 by decide +kernel)
def LONE : Str := "lone"
def LEAST : Str := "least"
def NEW : Str := "new"
theorem lone_ok : nameOk LONE = true := by decide +kernel
theorem least_ok : nameOk LEAST = true := by decide +kernel
theorem new_ok : nameOk NEW = true := by decide +kernel
theorem lone_ne : LONE ≠ LEAST := by decide +kernel
theorem lone_tit : LONE ∉ TITLES := by decide +kernel
theorem least_tit : LEAST ∉ TITLES := by decide +kernel
def tF1 (d : Int) : Tr := ⟨false, LONE, NEW, d, 5, NEW⟩
def tF2 (d : Int) : Tr := ⟨true, LEAST, NEW, d, 1, NEW⟩
section
variable {T : Tb} {d1 d2 : Int}
theorem loop1 (h : LONE ∉ T.names) (d0 : 0 ≤ d1) (hd : d1 < T.day) (hT : T.day ≤ 1000000000) : isLoop T (tF1 d1) :=
  ⟨⟨lone_ok, new_ok, new_ok, d0, (by show d1 ≤ _; omega), (by show (1 : Int) ≤ 5; decide), (by show (5 : Int) ≤ _; decide), fun q => nomatch q⟩, hd, rfl, rfl, h⟩
theorem loop2 (h : LEAST ∉ T.names) (d0 : 0 ≤ d2) (hd : d2 < T.day) (hT : T.day ≤ 1000000000) : isLoop T (tF2 d2) :=
  ⟨⟨least_ok, new_ok, new_ok, d0, (by show d2 ≤ _; omega), (by show (1 : Int) ≤ 1; decide), (by show (1 : Int) ≤ _; decide), fun _ => rfl⟩, hd, rfl, rfl, h⟩
/-- a table with loops, and how its parts go -/
structure Loops (T : Tb) (d1 d2 : Int) : Prop where
  ok : T.Ok
  len : T.rows.length ≤ 20
  few : (places T.rows).length ≤ 7
  l1 : isLoop T (tF1 d1)
  l2 : isLoop T (tF2 d2)
namespace Loops
variable (L : Loops T d1 d2)
include L
theorem n12 : ([tF1 d1, tF2 d2].map (·.name)).Nodup := by
  show [LONE, LEAST].Nodup
  exact List.nodup_cons.mpr ⟨fun h => lone_ne (List.mem_singleton.mp h), List.nodup_cons.mpr ⟨List.not_mem_nil, .nil⟩⟩
theorem both : ∀ t ∈ [tF1 d1, tF2 d2], isLoop T t := fun t h => by
  simp only [List.mem_cons, List.not_mem_nil, or_false] at h
  rcases h with rfl | rfl
  · exact L.l1
  · exact L.l2
theorem r12 : RowsOk T.day (T.rows ++ [tF1 d1, tF2 d2]) := RowsOk.loops L.ok L.len L.few (by show 2 ≤ 2; decide) L.both L.n12
theorem r2 : RowsOk T.day (T.rows ++ [tF2 d2]) := RowsOk.loops L.ok L.len L.few (by show 1 ≤ 2; decide) (fun t h => by rw [List.mem_singleton.mp h]; exact L.l2) (List.nodup_cons.mpr ⟨List.not_mem_nil, .nil⟩)
theorem r0 : RowsOk T.day [tF1 d1, tF2 d2] := by
  refine RowsOk.loops (T := ⟨T.day, []⟩) (empty_ok L.ok.d0 L.ok.d1) (Nat.zero_le _) (show (places []).length ≤ 7 by decide +kernel) (by show 2 ≤ 2; decide) (fun t h => ?_) L.n12
  obtain ⟨h1, h2, h3, h4, _⟩ := L.both t h
  exact ⟨h1, h2, h3, h4, List.not_mem_nil⟩
/-- the whole -/
theorem wok : (mkT T.day (T.rows ++ [tF1 d1, tF2 d2])).Ok := mkT_ok L.ok.d0 L.ok.d1 L.r12
theorem add1 : mkT T.day (T.rows ++ (mkT T.day [tF1 d1, tF2 d2]).rows) = mkT T.day (T.rows ++ [tF1 d1, tF2 d2]) :=
  (mkT_congr L.ok.d0 L.ok.d1 L.r12 ((List.perm_append_left_iff _).mpr mkT_perm)).symm
theorem add2 : mkT T.day ((mkT T.day [tF1 d1, tF2 d2]).rows ++ T.rows) = mkT T.day (T.rows ++ [tF1 d1, tF2 d2]) :=
  (mkT_congr L.ok.d0 L.ok.d1 L.r12 (((List.perm_append_left_iff _).mpr mkT_perm).trans List.perm_append_comm)).symm
theorem swap : mkT T.day (T.rows ++ [tF2 d2, tF1 d1]) = mkT T.day (T.rows ++ [tF1 d1, tF2 d2]) :=
  (mkT_congr L.ok.d0 L.ok.d1 L.r12 ((List.perm_append_left_iff _).mpr (List.Perm.swap _ _ _))).symm
theorem out_perm (zs : List Str) (us : List Tr) (h : (T.rows ++ [tF1 d1, tF2 d2]).filter (fun t => !decide (t.name ∈ zs)) = us) : us.Perm ((mkT T.day (T.rows ++ [tF1 d1, tF2 d2])).rows.filter fun t => !decide (t.name ∈ zs)) := by
  rw [← h]
  exact mkT_perm.filter _
theorem keep (zs : List Str) (hz : ∀ z ∈ zs, z = LONE ∨ z = LEAST) : T.rows.filter (fun t => !decide (t.name ∈ zs)) = T.rows := List.filter_eq_self.mpr fun t ht => by
  have hn : t.name ∈ T.names := List.mem_map_of_mem ht
  have : t.name ∉ zs := fun q => by
    rcases hz _ q with e | e
    · rw [e] at hn; exact L.l1.2.2.2.2 hn
    · rw [e] at hn; exact L.l2.2.2.2.2 hn
  simp [this]
theorem without2 : mkT T.day ((mkT T.day (T.rows ++ [tF1 d1, tF2 d2])).rows.filter fun t => !decide (t.name ∈ [LONE, LEAST])) = T := by
  refine mkT_self L.ok (L.out_perm _ _ ?_).symm
  rw [List.filter_append, L.keep _ fun z h => by simpa using h]
  have : [tF1 d1, tF2 d2].filter (fun t => !decide (t.name ∈ [LONE, LEAST])) = [] := List.filter_eq_nil_iff.mpr fun t h => by
    simp only [List.mem_cons, List.not_mem_nil, or_false] at h
    rcases h with rfl | rfl <;> simp [tF1, tF2]
  rw [this, List.append_nil]
theorem out1 : (T.rows ++ [tF2 d2]).Perm ((mkT T.day (T.rows ++ [tF1 d1, tF2 d2])).rows.filter fun t => !decide (t.name ∈ [LONE])) := by
  refine L.out_perm _ _ ?_
  rw [List.filter_append, L.keep _ fun z h => .inl (by simpa using h)]
  congr 1
theorem without1 : mkT T.day ((mkT T.day (T.rows ++ [tF1 d1, tF2 d2])).rows.filter fun t => !decide (t.name ∈ [LONE])) = mkT T.day (T.rows ++ [tF2 d2]) :=
  (mkT_congr L.ok.d0 L.ok.d1 L.r2 L.out1).symm
theorem names_mem {z : Str} : z ∈ (mkT T.day (T.rows ++ [tF1 d1, tF2 d2])).names ↔ z ∈ T.names ∨ z = LONE ∨ z = LEAST := by
  have h : (mkT T.day (T.rows ++ [tF1 d1, tF2 d2])).names.Perm ((T.rows ++ [tF1 d1, tF2 d2]).map (·.name)) := (mkT_perm.symm).map _
  rw [h.mem_iff, List.map_append, List.mem_append]
  show _ ∨ z ∈ [LONE, LEAST] ↔ _
  unfold Tb.names
  simp
theorem wlen : (mkT T.day (T.rows ++ [tF1 d1, tF2 d2])).rows.length = T.rows.length + 2 := by
  rw [← mkT_perm.length_eq, List.length_append]
  rfl
theorem wplaces {z : Str} (h : z ∈ places T.rows) : z ∈ places (mkT T.day (T.rows ++ [tF1 d1, tF2 d2])).rows := by
  rw [← places_perm mkT_perm]
  obtain ⟨t, ht, e⟩ := places_mem.mp h
  exact places_mem.mpr ⟨t, List.mem_append_left _ ht, e⟩
end Loops
end
end K22

set_option Elab.async false
set_option linter.all false
set_option pp.maxSteps 400
set_option maxRecDepth 100000
set_option maxHeartbeats 4000000
/-! G13: the law: loops right. -/
namespace K22
open PySem PySem.Spec PyProof.Rows L2
section
variable {w : World} {K : PySem.W.Frag} {mg : Str → Option Value} {base : Heap}
theorem rp_inTxU {neg : Bool} {z : Str} {cs : List Str} {H : Hp} : RP (rIn K neg) (is (.str z)) (tupQ (txQ cs)) H (is (.bl (if neg then !decide (z ∈ cs) else decide (z ∈ cs)))) := fun H1 e a b h1 ⟨p, vs, hb, hp, hv⟩ Q k => by
  cases h1
  rw [txQ_all hv] at hp
  refine ⟨p, _, hb, .inr (SqT.of hp), rfl, flat_strs, ?_⟩
  rw [inV_dec]
  exact k _ H1 (Same.refl H1) rfl
abbrev NO : List Str := ["_law_pen_here", "_law_made", "_law_long", "_law_first", "_law_second", "_law_loops", "_law_whole", "_law_place"]
theorem sc_law_loops_right : FnScope NO ["_law_pen_here", "_law_made", "_law_long"] (defScope s_law_loops_right) := ⟨rfl, rfl, rfl, by decide +kernel, rfl, by decide +kernel, by decide +kernel⟩
def spLoR (K : PySem.W.Frag) (d : Nat) : Sp := fun vs H Q _ => ∃ (p c : Addr) (N : Nat) (x : V) (T : Tb), vs = [.ref p, x, .int T.day] ∧ penAt N p c H ∧ N + d ≤ 1000000 ∧ tabQ K T x H ∧ T.Ok ∧ T.day ≤ 1000000000 ∧ T.rows.length ≤ 20 ∧ (places T.rows).length ≤ 7 ∧ (∀ z ∈ T.names, z ∈ TITLES) ∧ ∀ H', KeepX p H H' → penAt (N + d) p c H' → Q (.bl true) H'
theorem ok_law_loops_right (G : Fc K mg) : Fn R.prog w K mg base 10 (f_law_loops_right K) (spLoR K 10) := by
  refine fnA G.d_law_loops_right sc_law_loops_right (fun _ _ _ _ _ _ us hl => match us, hl with | [_, _, _], _ => rfl) (fun vs H Q h => ?_) (fun vs H Q E h => h) (fun cdv A outer s H vs Q hr h => ?_)
  · obtain ⟨p, c, N, x, T, rfl, _⟩ := h
    rfl
  · obtain ⟨p, c, N, x, T, rfl, hp, hN, hx, ok, hd9, hl20, hp7, htit, k⟩ := h
    have nd := sc_law_loops_right.nd
    have hu64 : (A.deeper (envOfC "_law_loops_right" (defScope s_law_loops_right) s.heap.objs.size (f_law_loops_right K) cdv)).units + 64 < cLine := hr.units
    refine ⟨_, pss_cons (ps_par (i := 3) (j := 4) rfl nd rfl rfl (by decide) rfl rfl (pa_cons (pe_mk (C := cT K false) G.m_Run (ok_mkinit G false) hr G.g_Run (pa_cons pe_str (pa_cons pe_str (pa_cons (pe_f (ok_law_draw G) hr G.g_law_draw G.d_law_draw.choose_spec.kp (pa_cons (pv 0) (pa_cons (pv 2) pa_nil))) (pa_cons pe_int (pa_cons pe_str pa_nil))))))
          (pa_cons (pe_mk (C := cT K true) G.m_Stay (ok_mkinit G true) hr G.g_Stay (pa_cons pe_str (pa_cons pe_str (pa_cons (pe_f (ok_law_draw G) hr G.g_law_draw G.d_law_draw.choose_spec.kp (pa_cons (pv 0) (pa_cons (pv 2) pa_nil))) (pa_cons pe_int pa_nil))))) pa_nil)) (by rfl)) <|
      pss_cons (ps_set (i := 5) nd rfl (Or.inl rfl) (pe_mk G.m_Table (ok_Table_init G) hr G.g_Table (pa_cons (pe_mk G.m_Day (ok_Day_init G) hr G.g_Day (pa_cons (pv 2) pa_nil)) (pa_cons (pv 3) (pa_cons (pv 4) pa_nil))))) <|
      pss_cons (ps_set (i := 6) nd rfl (Or.inr rfl) (pe_op (op_addQ (ok_Table_add G) hr) (pv 1) (pv 5))) <|
      pss_cons (ps_if (PW.pt (pw_or (pt_cmpR (op_neQ (ok_Table_eq G) hr) (pv 6) (pe_op (op_addQ (ok_Table_add G) hr) (pv 5) (pv 1)) (nomark _))
          (pw_or (pt_cmpR (op_neQ (ok_Table_eq G) hr) (pv 6) (pe_m hr (pv 1) (pa_cons (pv 4) (pa_cons (pv 3) pa_nil))) (nomark _))
            (pw_or1 (pt_cmpR (op_neQ (ok_Table_eq G) hr) (pe_m hr (pv 6) (pa_cons pe_str (pa_cons pe_str pa_nil))) (pv 1) (nomark _)))))) pss_never pss_nil) <|
      pss_cons (ps_if (PW.pt (pw_or (pt_cmpR (op_neQ (ok_Table_eq G) hr) (pe_m hr (pv 6) (pa_cons pe_str pa_nil)) (pe_m hr (pv 1) (pa_cons (pv 4) pa_nil)) (nomark _))
          (pw_or (pt_cmpR (op_inO (ok_Table_contains G) hr) pe_str (pv 1) (by rfl))
            (pw_or1 (pt_cmpR (op_notInO (ok_Table_contains G) hr) pe_str (pv 6) (by rfl)))))) pss_never pss_nil) <|
      pss_one (ps_ret (pe_and (pe_cmpR op_eq (pe_callB (call_lenQ (ok_Table_len G) hr) (by rfl) G.b_len PySem.boot_len (pa_cons (pv 6) pa_nil)) (pe_op op_add (pe_callB (call_lenQ (ok_Table_len G) hr) (by rfl) G.b_len PySem.boot_len (pa_cons (pv 1) pa_nil)) pe_int) (nomark _))
        (pe_one (pe_cmpR (op_eqV hu64) (pe_lc (te := tVar 7) (tt := tTest (tOp (rIn K true) (tVar 7) (tFld K (tVar 6) "places"))) (own := [("_law_place", 7)]) (g := gName 7) (by rfl) nd (pi_tup (pe_fld (pv 1) rfl)) (blkOk_by (own := [("_law_place", 7)]) (N := NO) (sc := defScope s_law_loops_right) (by decide +kernel))
            (fun _ _ _ _ _ => pg_name (i := 7) nd rfl (Or.inl rfl)) (fun _ _ _ _ _ => pts_one (pt_cmpR op_notIn_seq (pv 7) (pe_fld (pv 6) rfl) (by rfl))) (fun _ _ _ _ _ => pv 7)) (pe_lst pa_nil) (nomark _))))), ?_⟩
    obtain ⟨a, dx, fs, rfl, ha⟩ := tabQ_ins hx
    have hd1 := ok.d0
    have hlone : LONE ∉ T.names := fun q => lone_tit (htit _ q)
    have hleast : LEAST ∉ T.names := fun q => least_tit (htit _ q)
    refine d_draw rfl (ev_v (i := 2) (v := .int T.day) rfl) hp (by omega) hd1 (by omega) fun i1 H1 k1 hp1 a0 a1 x1 y1 hx1 hy1 hn1 => ?_
    have l1 := loop1 hlone a0 a1 hd9
    have ea1 : (tF1 i1).args = [.str LONE, .str NEW, .int i1, .int 5, .str NEW] := if_neg (fun h => nomatch h)
    refine mk_trip (K := K) (t := tF1 i1) (H := H1) l1.1 H1 (Same.refl _) _ (by rw [ea1]; exact .cons rfl (.cons rfl (.cons rfl (.cons rfl (.cons rfl .nil))))) x1 y1 hx1 hy1 hn1 _ fun H2 e2 ht1 => ?_
    have hp2 := hp1.mono e2 (Nat.le_refl _)
    refine d_draw rfl (ev_v (i := 2) (v := .int T.day) rfl) hp2 (by omega) hd1 (by omega) fun i2 H3 k3 hp3 b0 b1 x2 y2 hx2 hy2 hn2 => ?_
    have l2 := loop2 hleast b0 b1 hd9
    have ea2 : (tF2 i2).args = [.str LEAST, .str NEW, .int i2, .int 1] := if_pos rfl
    refine mk_trip (K := K) (t := tF2 i2) (H := H3) l2.1 H3 (Same.refl _) _ (by rw [ea2]; exact .cons rfl (.cons rfl (.cons rfl (.cons rfl .nil)))) x2 y2 hx2 hy2 hn2 _ fun H4 e4 ht2 => ?_
    refine ⟨_, _, rfl, ?_⟩
    show tSeq _ _ _ [some (.ref p), some (.ref a), some (.int T.day), some (.ref x1), some (.ref x2), none, none, none] H4
    have L : Loops T i1 i2 := ⟨ok, hl20, hp7, l1, l2⟩
    have nl23 : NL H2 H3 := nl_draw k3 hp2 hp3
    have hp4 := hp3.mono e4 (Nat.le_refl _)
    have ht1' : tripQ K (tF1 i1) (.ref x1) H4 := Stab.st (nl23.trans (nl_same e4)) ht1
    have hx4 : tabQ K T (.ref a) H4 := Stab.st ((((nl_draw k1 hp hp1).trans (nl_same e2)).trans nl23).trans (nl_same e4)) hx
    have kk4 : KeepX p H H4 := (KeepX.trans (k1.same e2) k3).same e4
    have s0 := Same.refl H4
    have v1 : ∀ (σ : L2.St) (H' : Hp), σ[1]? = some (some (.ref a)) → Same H4 H' → EvP (tVar 1) σ H' (tabQ K T) := fun σ H' h e => ev_var h (Mono.mono e hx4)
    have v3 : ∀ (σ : L2.St) (H' : Hp), σ[3]? = some (some (.ref x1)) → Same H4 H' → EvP (tVar 3) σ H' (tripQ K (tF1 i1)) := fun σ H' h e => ev_var h (Mono.mono e ht1')
    have v4 : ∀ (σ : L2.St) (H' : Hp), σ[4]? = some (some (.ref x2)) → Same H4 H' → EvP (tVar 4) σ H' (tripQ K (tF2 i2)) := fun σ H' h e => ev_var h (Mono.mono e ht2)
    have ok0 : (mkT T.day [tF1 i1, tF2 i2]).Ok := mkT_ok ok.d0 ok.d1 L.r0
    refine s_set (ev_mk (ea_cons (ev_mk (ea_cons (ev_v (i := 2) (v := .int T.day) rfl) ea_nil) (mk_day (K := K) (n := T.day) ok.d0 ok.d1)) (ea_cons (v3 _ _ rfl s0) (ea_cons (v4 _ _ rfl s0) ea_nil))) (mk_tab (T := mkT T.day [tF1 i1, tF2 i2]) (asT_trips (ts := [tF1 i1, tF2 i2])) rfl mkT_perm ok0)) fun lo H5 e5 hlo => ?_
    have v5 : ∀ (σ : L2.St) (H' : Hp), σ[5]? = some (some lo) → Same H5 H' → EvP (tVar 5) σ H' (tabQ K (mkT T.day [tF1 i1, tF2 i2])) := fun σ H' h e => ev_var h (Mono.mono e hlo)
    refine s_set (ev_teq (ev_op (v1 _ _ rfl e5) (v5 _ _ rfl (Same.refl _)) (rp_addTab G rfl (by
      show (mkT T.day (T.rows ++ (mkT T.day [tF1 i1, tF2 i2]).rows)).Ok
      rw [L.add1]; exact L.wok))) L.add1) fun wh H6 e6 hwh => ?_
    have e46 := e5.trans e6
    have v6 : ∀ (σ : L2.St) (H' : Hp), σ[6]? = some (some wh) → Same H6 H' → EvP (tVar 6) σ H' (tabQ K (mkT T.day (T.rows ++ [tF1 i1, tF2 i2]))) := fun σ H' h e => ev_var h (Mono.mono e hwh)
    have w2 : ∀ H' : Hp, MethP (cxOf CX0 R.prog w K mg base NO "_law_loops_right" (defScope s_law_loops_right) (f_law_loops_right K) cdv A outer s H E0).nox 9 "with_trips" (tabQ K T) [tripQ K (tF2 i2), tripQ K (tF1 i1)] H' (tabQ K (mkT T.day (T.rows ++ [tF2 i2, tF1 i1]))) := fun H' => mp_withT G ⟨rfl, rfl, rfl⟩ (asT_trips (ts := [tF2 i2, tF1 i1])) ok (by rw [L.swap]; exact L.wok)
    have w1 : ∀ H' : Hp, MethP (cxOf CX0 R.prog w K mg base NO "_law_loops_right" (defScope s_law_loops_right) (f_law_loops_right K) cdv A outer s H E0).nox 9 "with_trips" (tabQ K T) [tripQ K (tF2 i2)] H' (tabQ K (mkT T.day (T.rows ++ [tF2 i2]))) := fun H' => mp_withT G ⟨rfl, rfl, rfl⟩ (asT_trips (ts := [tF2 i2])) ok (mkT_ok ok.d0 ok.d1 L.r2)
    have o2 : ∀ H' : Hp, MethP (cxOf CX0 R.prog w K mg base NO "_law_loops_right" (defScope s_law_loops_right) (f_law_loops_right K) cdv A outer s H E0).nox 9 "without" (tabQ K (mkT T.day (T.rows ++ [tF1 i1, tF2 i2]))) (txQ [LONE, LEAST]) H' (tabQ K (mkT T.day ((mkT T.day (T.rows ++ [tF1 i1, tF2 i2])).rows.filter fun t => !decide (t.name ∈ [LONE, LEAST])))) := fun H' => mp_without G ⟨rfl, rfl, rfl⟩ L.wok (fun z h => L.names_mem.mpr (.inr (by simpa using h))) (Nat.le_of_ble_eq_true rfl) (by
      show (mkT T.day ((mkT T.day (T.rows ++ [tF1 i1, tF2 i2])).rows.filter fun t => !decide (t.name ∈ [LONE, LEAST]))).Ok
      rw [L.without2]; exact ok)
    have o1 : ∀ H' : Hp, MethP (cxOf CX0 R.prog w K mg base NO "_law_loops_right" (defScope s_law_loops_right) (f_law_loops_right K) cdv A outer s H E0).nox 9 "without" (tabQ K (mkT T.day (T.rows ++ [tF1 i1, tF2 i2]))) (txQ [LONE]) H' (tabQ K (mkT T.day ((mkT T.day (T.rows ++ [tF1 i1, tF2 i2])).rows.filter fun t => !decide (t.name ∈ [LONE])))) := fun H' => mp_without G ⟨rfl, rfl, rfl⟩ L.wok (fun z h => L.names_mem.mpr (.inr (.inl (by simpa using h)))) (Nat.le_of_ble_eq_true rfl) (by
      show (mkT T.day ((mkT T.day (T.rows ++ [tF1 i1, tF2 i2])).rows.filter fun t => !decide (t.name ∈ [LONE]))).Ok
      rw [L.without1]; exact mkT_ok ok.d0 ok.d1 L.r2)
    have s6 := Same.refl H6
    refine s_skip (et_or (et_test (ev_op (v6 _ _ rfl s6) (ev_teq (ev_op (v5 _ _ rfl e6) (v1 _ _ rfl e46) (rp_addTab G rfl (by
        show (mkT T.day ((mkT T.day [tF1 i1, tF2 i2]).rows ++ T.rows)).Ok
        rw [L.add2]; exact L.wok))) L.add2) (rp_neTab G L.wok))) fun _ =>
      et_or (et_test (ev_op (v6 _ _ rfl s6) (ev_teq (ev_m (v1 _ _ rfl e46) (ea_cons (v4 _ _ rfl e46) (ea_cons (v3 _ _ rfl e46) ea_nil)) (w2 _)) L.swap) (rp_neTab G L.wok))) fun _ =>
      et_test (ev_op (ev_teq (ev_m (v6 _ _ rfl s6) (ea_cons ev_k (ea_cons ev_k ea_nil)) (o2 _)) L.without2) (v1 _ _ rfl e46) (rp_neTab G ok))) fun H7 e7 => ?_
    have e47 := e46.trans e7
    refine s_skip (et_eq (et_or (et_test (ev_op (ev_teq (ev_m (v6 _ _ rfl e7) (ea_cons ev_k ea_nil) (o1 _)) L.without1) (ev_m (v1 _ _ rfl e47) (ea_cons (v4 _ _ rfl e47) ea_nil) (w1 _)) (rp_neTab G (mkT_ok ok.d0 ok.d1 L.r2)))) fun _ =>
      et_or (et_test (ev_op (ev_k (v := .str LONE)) (v1 _ _ rfl e47) (rp_inT2 G (neg := false)))) fun _ =>
      et_test (ev_op (ev_k (v := .str LONE)) (v6 _ _ rfl e7) (rp_inT2 G (neg := true)))) (by
        rw [decide_eq_false hlone, decide_eq_true (L.names_mem.mpr (.inr (.inl rfl)))]
        rfl)) fun H8 e8 => ?_
    have e78 := e7.trans e8
    have e48 := e46.trans e78
    have hlc := ev_lcT (K := K) (g := gName 7) (vs := [7]) (te := tVar 7) (tt := tTest (tOp (rIn K true) (tVar 7) (tFld K (tVar 6) "places")))
      (ei_tupQ (te := tFld K (tVar 1) "places") (H := H8) (σ := [some (.ref p), some (.ref a), some (.int T.day), some (.ref x1), some (.ref x2), some lo, some wh, none]) (ev_Tplaces G (v1 _ _ rfl e48))) (fun _ => false) (fun _ => is .non) (by rw [List.length_map]; omega) fun i v hi => by
        obtain ⟨z, hz, rfl⟩ := List.mem_map.mp (List.mem_of_getElem? hi)
        refine ⟨[some (.ref p), some (.ref a), some (.int T.day), some (.ref x1), some (.ref x2), some lo, some wh, some (.str z)], rfl, fun H' R hR => hR, ?_, fun h => nomatch h⟩
        have t := ev_op (ev_v (i := 7) (σ := [some (.ref p), some (.ref a), some (.int T.day), some (.ref x1), some (.ref x2), some lo, some wh, some (.str z)]) (H := H8) (v := .str z) rfl) (ev_Tplaces G (v6 _ _ rfl e78)) (rp_inTxU (K := K) (neg := true))
        rw [decide_eq_true (L.wplaces hz)] at t
        exact et_test t
    rw [keptQ_none fun _ _ => rfl] at hlc
    refine s_ret (ev_andV (ev_op (ev_cb (ea_cons (v6 _ _ rfl e78) ea_nil) (cp_lenTab G L.wok)) (ev_op (ev_cb (ea_cons (v1 _ _ rfl e48) ea_nil) (cp_lenTab G ok)) (ev_k (v := .int 2)) (rp_I0 (g := fun i j => .int (i + j)))) (rp_eq rfl)) fun _ => ev_op hlc (ev_lst ea_nil) rp_eqNil) fun v H9 e9 hv => ?_
    cases hv
    rw [L.wlen]
    have : decide (V.int ((T.rows.length + 2 : Nat) : Int) = V.int ((T.rows.length : Nat) + 2)) = true := decide_eq_true (by simp)
    rw [this]
    have e49 := e48.trans e9
    exact k H9 (kk4.same e49) (hp4.mono e49 (by omega))
end
end K22

set_option Elab.async false
set_option linter.all false
set_option pp.maxSteps 400
set_option maxRecDepth 100000
set_option maxHeartbeats 4000000
/-! M6: plain: laws of pauses. -/
namespace K22
open PySem PySem.Spec PyProof.Rows L2
theorem both_mem {l m : Pz} {z : Str} : z ∈ bothK l m ↔ z ∈ keysP l ∨ z ∈ keysP m := by
  unfold bothK
  rw [uniqT_mem, List.mem_append]
theorem look_map2 {zs : List Str} {h : Str → Int} (z : Str) : look (zs.map fun z => (z, h z)) z = if z ∈ zs then h z else 0 := by
  induction zs with
  | nil => rw [if_neg List.not_mem_nil]; rfl
  | cons y zs ih =>
    rw [List.map_cons, look_cons]
    show (if y = z then h y else look (zs.map fun z => (z, h z)) z) = _
    by_cases e : y = z
    · subst e
      rw [if_pos rfl, if_pos (.head _)]
    · rw [if_neg e, ih]
      by_cases hz : z ∈ zs
      · rw [if_pos hz, if_pos (.tail _ hz)]
      · rw [if_neg hz, if_neg (fun q => by rcases List.mem_cons.mp q with q | q; exact e q.symm; exact hz q)]
section
variable {l m : Pz} {g : Int → Int → Int} {B : Int}
theorem look_comb (raw : (combR g l m).Raw) (h0 : g 0 0 = 0) (z : Str) : look (norm (combR g l m)) z = g (look l z) (look m z) := by
  rw [look_norm raw]
  unfold combR
  rw [look_map2]
  by_cases hz : z ∈ bothK l m
  · rw [if_pos hz]
  · rw [if_neg hz]
    have h1 := mt (fun q => both_mem.mpr (.inl q)) hz
    have h2 := mt (fun q => both_mem.mpr (.inr q)) hz
    rw [look_not h1, look_not h2, h0]
theorem Pz.Ok.bound (h : l.Ok) (hB : 0 ≤ B) (hb : ∀ p ∈ l, p.2 ≤ B) (z : Str) : 0 ≤ look l z ∧ look l z ≤ B := by
  by_cases q : z ∈ keysP l
  · obtain ⟨p, hp, e, e2⟩ := look_at q
    have := h.lo p hp
    have := hb p hp
    omega
  · rw [look_not q]
    omega
theorem Pz.Ok.nonneg (h : l.Ok) (z : Str) : 0 ≤ look l z := (h.bound (B := 1000000000000) (by decide) h.hi z).1
theorem keys_len2 (l : Pz) : (keysP l).length = l.length := List.length_map _
theorem both_len : (bothK l m).length ≤ l.length + m.length := by
  unfold bothK
  refine Nat.le_trans (uniqT_len_le _) ?_
  rw [List.length_append, keys_len2, keys_len2]
  exact Nat.le_refl _
theorem combR_raw (hl : l.Ok) (hm : m.Ok) (hlen : l.length + m.length ≤ 60) (hg : ∀ z, 0 ≤ g (look l z) (look m z) ∧ g (look l z) (look m z) ≤ 1000000000000) : (combR g l m).Raw where
  nd := by rw [combR_keys]; exact strict_nd (uniqT_strict _)
  nm := fun z hz => by
    rw [combR_keys] at hz
    rcases both_mem.mp hz with h | h
    · exact hl.nm z h
    · exact hm.nm z h
  lo := fun p hp => by
    obtain ⟨z, _, rfl⟩ := List.mem_map.mp hp
    exact (hg z).1
  hi := fun p hp => by
    obtain ⟨z, _, rfl⟩ := List.mem_map.mp hp
    exact (hg z).2
  len := by
    show ((bothK l m).map _).length ≤ 60
    rw [List.length_map]
    exact Nat.le_trans both_len hlen
theorem norm_len (l : Pz) : (norm l).length ≤ l.length := by
  have h1 := (norm_keys_sub l).length_le
  rw [(sortT_perm _).length_eq, keys_len2, keys_len2] at h1
  exact h1
theorem comb_len : (norm (combR g l m)).length ≤ l.length + m.length := by
  refine Nat.le_trans (norm_len _) ?_
  unfold combR
  rw [List.length_map]
  exact both_len
end
/-- small ones -/
structure Pz.Sm (l : Pz) : Prop where
  ok : l.Ok
  len : l.length ≤ 5
  hi : ∀ p ∈ l, p.2 ≤ 100000000000
section
variable {l m : Pz} (L : l.Sm) (M : m.Sm)
include L M
theorem sm_b (z : Str) : 0 ≤ look l z ∧ look l z ≤ 100000000000 ∧ 0 ≤ look m z ∧ look m z ≤ 100000000000 := by
  have h1 := L.ok.bound (by decide) L.hi z
  have h2 := M.ok.bound (by decide) M.hi z
  omega
theorem raw_of {g : Int → Int → Int} (hg : ∀ i j : Int, 0 ≤ i → i ≤ 100000000000 → 0 ≤ j → j ≤ 100000000000 → 0 ≤ g i j ∧ g i j ≤ 1000000000000) : (combR g l m).Raw := by
  refine combR_raw L.ok M.ok (by have := L.len; have := M.len; omega) fun z => ?_
  obtain ⟨h1, h2, h3, h4⟩ := sm_b L M z
  exact hg _ _ h1 h2 h3 h4
theorem raw_max : (combR gmax l m).Raw := raw_of L M fun i j _ _ _ _ => by unfold gmax; split <;> omega
theorem raw_min : (combR gmin l m).Raw := raw_of L M fun i j _ _ _ _ => by unfold gmin; split <;> omega
theorem raw_add : (combR (fun i j => i + j) l m).Raw := raw_of L M fun i j _ _ _ _ => by show 0 ≤ i + j ∧ i + j ≤ _; omega
theorem look_max (z : Str) : look (norm (combR gmax l m)) z = gmax (look l z) (look m z) := look_comb (raw_max L M) rfl z
theorem look_min (z : Str) : look (norm (combR gmin l m)) z = gmin (look l z) (look m z) := look_comb (raw_min L M) rfl z
theorem look_add (z : Str) : look (norm (combR (fun i j => i + j) l m)) z = look l z + look m z := look_comb (raw_add L M) rfl z
theorem raw_sum : (combR (fun i j => i + j) (norm (combR gmax l m)) (norm (combR gmin l m))).Raw := by
  refine combR_raw (raw_max L M).norm (raw_min L M).norm (by
    have h1 := comb_len (g := gmax) (l := l) (m := m)
    have h2 := comb_len (g := gmin) (l := l) (m := m)
    have := L.len
    have := M.len
    omega) fun z => ?_
  show 0 ≤ look _ z + look _ z ∧ look _ z + look _ z ≤ _
  rw [look_max L M, look_min L M]
  have := sm_b L M z
  unfold gmax gmin
  split <;> split <;> omega
theorem law_sum : norm (combR (fun i j => i + j) (norm (combR gmax l m)) (norm (combR gmin l m))) = norm (combR (fun i j => i + j) l m) := by
  refine pz_ext (raw_sum L M).norm (raw_add L M).norm fun z => ?_
  rw [look_comb (raw_sum L M) rfl, look_add L M, look_max L M, look_min L M]
  show gmax _ _ + gmin _ _ = _
  unfold gmax gmin
  split <;> split <;> omega
theorem law_le : leP (norm (combR gmin l m)) l = true := List.all_eq_true.mpr fun z _ => decide_eq_true (by
  rw [look_min L M]
  unfold gmin
  split <;> omega)
theorem law_ge : leP m (norm (combR gmax l m)) = true := List.all_eq_true.mpr fun z _ => decide_eq_true (by
  rw [look_max L M]
  unfold gmax
  split <;> omega)
theorem law_leq : leP l m = decide (norm (combR gmax l m) = m) := by
  refine Bool.eq_iff_iff.mpr ?_
  rw [decide_eq_true_iff]
  constructor
  · intro h
    refine pz_ext (raw_max L M).norm M.ok fun z => ?_
    rw [look_max L M]
    have hz : look l z ≤ look m z := by
      by_cases q : z ∈ keysP l
      · exact of_decide_eq_true (List.all_eq_true.mp h z q)
      · rw [look_not q]
        exact M.ok.nonneg z
    unfold gmax
    split <;> omega
  · intro h
    refine List.all_eq_true.mpr fun z _ => decide_eq_true ?_
    have e := look_max L M z
    rw [h] at e
    unfold gmax at e
    split at e <;> omega
end
section
variable {l : Pz} (L : l.Sm)
include L
theorem law_same : norm (combR gmax l l) = l := pz_ext (raw_max L L).norm L.ok fun z => by
  rw [look_max L L]
  unfold gmax
  split <;> rfl
theorem sm_nil : Pz.Sm [] := ⟨ok_nil, Nat.zero_le _, fun p h => absurd h List.not_mem_nil⟩
theorem law_none : norm (combR gmin l []) = [] := by
  have N : Pz.Sm [] := sm_nil L
  refine pz_ext (raw_min L N).norm ok_nil fun z => ?_
  rw [look_min L N, look_nil]
  have := L.ok.nonneg z
  unfold gmin
  split <;> omega
theorem law_zero : norm (combR (fun i j => i + j) l []) = l := by
  have N : Pz.Sm [] := sm_nil L
  refine pz_ext (raw_add L N).norm L.ok fun z => ?_
  rw [look_add L N, look_nil]
  omega
theorem put_raw {z : Str} {i : Int} (hz : nameOk z = true) (h0 : 0 ≤ i) (h1 : i ≤ 1000000000000) : (putP l z i).Raw := putP_raw L.ok hz h0 h1 (by have := L.len; omega)
theorem look_le (z : Str) : look l z ≤ 1000000000000 := (L.ok.bound (by decide) L.ok.hi z).2
theorem law_put {z : Str} (hz : nameOk z = true) : norm (putP l z (look l z)) = l := by
  have r := put_raw L hz (L.ok.nonneg z) (look_le L z)
  refine pz_ext r.norm L.ok fun y => ?_
  rw [look_norm r, look_put]
  by_cases e : y = z
  · rw [if_pos e, e]
  · rw [if_neg e]
theorem putP_len {z : Str} {i : Int} : (putP l z i).length ≤ 6 := by
  have := L.len
  unfold putP
  split
  · rw [List.length_map]; omega
  · rw [List.length_append]
    show l.length + 1 ≤ 6
    omega
theorem put0_ok {z : Str} (hz : nameOk z = true) : (norm (putP l z 0)).Ok := (put_raw L hz (by decide) (by decide)).norm
theorem put0_len {z : Str} : (norm (putP l z 0)).length ≤ 6 := Nat.le_trans (norm_len _) (putP_len L)
theorem raw_put2 {z : Str} (hz : nameOk z = true) : (putP (norm (putP l z 0)) z (look l z)).Raw := putP_raw (put0_ok L hz) hz (L.ok.nonneg z) (look_le L z) (by have := put0_len L (z := z); omega)
theorem law_put2 {z : Str} (hz : nameOk z = true) : norm (putP (norm (putP l z 0)) z (look l z)) = l := by
  have r := raw_put2 L hz
  refine pz_ext r.norm L.ok fun y => ?_
  rw [look_norm r, look_put, look_norm (put_raw L hz (by decide) (by decide)), look_put]
  by_cases e : y = z
  · rw [if_pos e, e]
  · rw [if_neg e, if_neg e]
end
end K22

set_option Elab.async false
set_option linter.all false
set_option pp.maxSteps 400
set_option maxRecDepth 100000
set_option maxHeartbeats 4000000
/-! G14: pauses as values. -/
namespace K22
open PySem PySem.Spec PyProof.Rows L2
def rStrO (K : PySem.W.Frag) (f : Addr) (sp : Sp) : List V → Hp → VK → Prop := fun vs H Q => ∃ a C dx fs, vs = [.ref a] ∧ H a = some (.ins C dx fs) ∧ Meth K C "__str__" f ∧ sp [.ref a] H (fun z H' => ∃ y : Str, z = .str y ∧ Q (.str y) H') E0
section
variable {X : Cx} {k n : Nat} {f : Addr} {sp : Sp}
theorem op_orQ (F : FnX X k f sp) (hr : Room n X.A) (hk : k ≤ n := by decide) : OpR X (binaryOp .BitOr) (rAddO X.K f "__or__" sp) := op_binO (op := .BitOr) F hr hk
theorem op_andQ (F : FnX X k f sp) (hr : Room n X.A) (hk : k ≤ n := by decide) : OpR X (binaryOp .BitAnd) (rAddO X.K f "__and__" sp) := op_binO (op := .BitAnd) F hr hk
theorem call_strP (F : FnX X k f sp) (hr : Room n X.A) (hk : k + 2 ≤ n := by decide) : CallR X (.type "str") (rStrO X.K f sp) := call_strO F hr hk
end
section
variable {w : World} {K : PySem.W.Frag} {mg : Str → Option Value} {base : Heap} {H : Hp} {σ : L2.St} {te : TE} {l m : Pz}
theorem ev_peq (h : EvP te σ H (pauQ K l)) (e : l = m) : EvP te σ H (pauQ K m) := e ▸ h
theorem pauQ_ins {v : V} (h : pauQ K l v H) : ∃ a dx fs, v = .ref a ∧ H a = some (.ins (cPauses K) dx fs) := by
  obtain ⟨x, rfl, dx, d, r, h1, _⟩ := h
  exact ⟨x, dx, _, rfl, h1⟩
theorem rp_neP (G : Fc K mg) (ok : l.Ok) : RP (rNeO K (f_Pauses_eq K) (spCmpP K fun l m => decide (l = m))) (pauQ K l) (pauQ K l) H (is (.bl false)) := by
  have := rp_nePau (H := H) G ok ok
  rw [decide_eq_true rfl] at this
  exact this
theorem rp_cmpP {f : Addr} {nm : Str} {F : Pz → Pz → Bool} (G : Fc K mg) (M : Meth K (cPauses K) nm f) (hl : l.Ok) (hm : m.Ok) : RP (rOwn2 K f nm (spCmpP K F)) (pauQ K l) (pauQ K m) H (is (.bl (F l m))) := fun H1 e x y hx hy Q k => by
  obtain ⟨a, dx, fs, rfl, ha⟩ := pauQ_ins hx
  obtain ⟨b, dy, gs, rfl, hb⟩ := pauQ_ins hy
  exact ⟨a, _, dx, fs, b, _, dy, gs, rfl, rfl, ha, hb, M, G.nf_Pauses_Pauses, _, _, l, m, rfl, hx, hy, hl, hm, fun H' e' => k _ H' e' rfl⟩
theorem rp_combP {f : Addr} {nm : Str} {g : Int → Int → Int} (G : Fc K mg) (M : Meth K (cPauses K) nm f) (hl : l.Ok) (hm : m.Ok) (raw : (combR g l m).Raw) : RP (rAddO K f nm (spComb K g)) (pauQ K l) (pauQ K m) H (pauQ K (norm (combR g l m))) := fun H1 e x y hx hy Q k => by
  obtain ⟨a, dx, fs, rfl, ha⟩ := pauQ_ins hx
  obtain ⟨b, dy, gs, rfl, hb⟩ := pauQ_ins hy
  exact ⟨a, _, dx, fs, b, dy, gs, rfl, rfl, ha, hb, M, G.sf_Pauses, _, _, l, m, rfl, hx, hy, hl, hm, raw, k⟩
theorem cp_strP (G : Fc K mg) (hl : l.Ok) : CP (rStrO K (f_Pauses_str K) (spTellP K)) [pauQ K l] H (is (.str (textP l))) := fun H1 e vs hv Q k => by
  obtain ⟨v, ws, rfl, h1, h2⟩ := all2_cons hv
  cases h2
  obtain ⟨a, dx, fs, rfl, ha⟩ := pauQ_ins h1
  exact ⟨a, _, dx, fs, rfl, ha, G.h_Pauses_str, _, l, rfl, h1, hl, fun H' e' => ⟨_, rfl, k _ H' e' rfl⟩⟩
theorem sp_readP (hl : l.Ok) : SP (spReadP K) [is (.str (textP l))] H (pauQ K l) := fun H1 e vs hv Q k => by
  have ev := all2_is (xs := [.str (textP l)]) hv
  subst ev
  exact ⟨l, rfl, hl, k⟩
theorem sp_pauOf {raw : Pz} (h : raw.Raw) : SP (spPauOf K) [dPz raw] H (pauQ K (norm raw)) := fun H1 e vs hv Q k => by
  obtain ⟨v, ws, rfl, ⟨d, rfl, hd⟩, h2⟩ := all2_cons hv
  cases h2
  exact ⟨d, raw, rfl, hd, h, k⟩
end
section
variable {w : World} {X : Cx} {n : Nat} {mg : Str → Option Value} {H : Hp} {l : Pz}
theorem mp_put {z : Str} {i : Int} (G : Fc X.K mg) (hX : X.prog = R.prog ∧ X.w = w ∧ X.mg = mg) (hl : l.Ok) (hz : nameOk z = true) (h0 : 0 ≤ i) (h1 : i ≤ 1000000000000) (hn : l.length < 60) (hk : 7 ≤ n := by decide) : MethP X n "put" (pauQ X.K l) [is (.str z), is (.int i)] H (pauQ X.K (norm (putP l z i))) := by
  obtain ⟨e1, e2, e3⟩ := hX
  intro H1 e x hx
  obtain ⟨x, rfl, dx, d, r, h1', _⟩ := id hx
  refine ⟨x, _, dx, _, _, 7, _, rfl, h1', G.c_Pauses, G.h_Pauses_put, rfl, by unfold FnX; rw [e1, e2, e3]; exact ok_Pauses_put G, hk, fun H2 e2 vs hv Q kk => ?_⟩
  have ev := all2_is (xs := [.str z, .int i]) hv
  subst ev
  exact ⟨.ref x, l, z, i, rfl, Mono.mono e2 hx, hl, hz, h0, h1, hn, kk⟩
end
/-! ### a dict of pairs -/
theorem putK_new {kvs : List (Str × V)} {z : Str} {v : V} (h : z ∉ kvs.map (·.1)) : putK (inrs kvs) (Sum.inr z : Key) v = inrs (kvs ++ [(z, v)]) := by
  unfold putK
  have hn : ¬ ((inrs kvs).any fun kv => decide (kv.1 = Sum.inr z)) = true := fun q => by
    obtain ⟨kv, h1, h2⟩ := List.any_eq_true.mp q
    obtain ⟨p, hp, rfl⟩ := List.mem_map.mp h1
    have e : (Sum.inr p.1 : Key) = Sum.inr z := of_decide_eq_true h2
    injection e with e
    exact h (by rw [← e]; exact List.mem_map_of_mem hp)
  rw [if_neg hn]
  unfold inrs
  rw [List.map_append]
  rfl
theorem merge_new : ∀ {more kvs : List (Str × V)}, ((kvs ++ more).map (·.1)).Nodup → mergeK (inrs kvs) (inrs more) = inrs (kvs ++ more)
  | [], kvs, _ => by rw [List.append_nil]; rfl
  | p :: more, kvs, nd => by
    show mergeK (putK (inrs kvs) (Sum.inr p.1) p.2) (inrs more) = _
    have hp : p.1 ∉ kvs.map (·.1) := fun q => by
      rw [List.map_append] at nd
      exact (List.nodup_append.mp nd).2.2 _ q _ (.head _) rfl
    rw [putK_new hp, merge_new (by rw [List.append_assoc]; exact nd), List.append_assoc]
    rfl
end K22

set_option Elab.async false
set_option linter.all false
set_option pp.maxSteps 400
set_option maxRecDepth 100000
set_option maxHeartbeats 4000000
/-! G15: the law: pauses right. -/
namespace K22
open PySem PySem.Spec PyProof.Rows L2
def SOME : List Str := ["a", "b", "zz", "self", "x"]
theorem some_ok : ∀ z ∈ SOME, nameOk z = true := by decide +kernel
theorem some_nd : SOME.Nodup := by decide +kernel
section
variable {K : PySem.W.Frag} {p c sm f : Addr} {H0 H H' : Hp} {M M' : Nat} {ls : List Pz}
structure PA (p c sm f : Addr) (H0 : Hp) : Prop where
  s0 : H0 sm = none
  f0 : H0 f = none
  ps : sm ≠ p
  pf : f ≠ p
  sf : sm ≠ f
  c0 : c ≠ p
  cs : c ≠ sm
  cf : c ≠ f
structure PS (K : PySem.W.Frag) (p c sm f : Addr) (H0 : Hp) (M : Nat) (ls : List Pz) (H : Hp) : Prop where
  keep : KeepX p H0 H
  pen : penAt M p c H
  smt : H sm = some (.lst (SOME.map V.str))
  held : ∃ vs, H f = some (.lst vs) ∧ All2 (ls.map (pauQ K)) vs H
theorem PS.draw (A : PA p c sm f H0) (S : PS K p c sm f H0 M ls H) (k : KeepX p H H') (h : penAt M' p c H') : PS K p c sm f H0 M' ls H' := by
  obtain ⟨vs, h1, h2⟩ := S.held
  exact ⟨KeepX.trans S.keep k, h, k _ _ A.ps S.smt, vs, k _ _ A.pf h1, StabL.st (nl_draw k S.pen h) h2⟩
theorem PS.same (A : PA p c sm f H0) (S : PS K p c sm f H0 M ls H) (e : Same H H') : PS K p c sm f H0 M ls H' := S.draw A (Same.keepX e) (S.pen.mono e (Nat.le_refl _))
theorem PS.le (S : PS K p c sm f H0 M ls H) (h : M ≤ M') : PS K p c sm f H0 M' ls H := ⟨S.keep, S.pen.mono (Same.refl _) h, S.smt, S.held⟩
theorem PS.put {D : Addr} {xs ys : List V} (A : PA p c sm f H0) (S : PS K p c sm f H0 M ls H) (h0 : H0 D = none) (hp : D ≠ p) (hc : D ≠ c) (hs : D ≠ sm) (hf : D ≠ f) (hD : H D = some (.lst xs)) : PS K p c sm f H0 M ls (upd H D (.lst ys)) := by
  obtain ⟨vs, h1, h2⟩ := S.held
  exact ⟨KeepX.upd0 S.keep h0, pen_upd S.pen hp hc, by rw [upd_ne hs.symm]; exact S.smt, vs, by rw [upd_ne hf.symm]; exact h1, StabL.st (nl_put hD) h2⟩
/-- a pair -/
def pairQ (q : Str × Int) : VQ := tupQ [is (.str q.1), is (.int q.2)]
instance {q : Str × Int} : Stab (pairQ q) := by unfold pairQ; exact inferInstance
theorem pairs_run {raw : Pz} {vs : List V} (h : All2 (raw.map pairQ) vs H) : ∃ qs : List Addr, vs = qs.map V.ref ∧ Paired (fun q kv => SqT K H q [kV kv.1, kv.2]) qs (inrs (pzV raw)) := by
  induction raw generalizing vs with
  | nil => cases h; exact ⟨[], rfl, .nil⟩
  | cons q raw ih =>
    obtain ⟨v, ws, rfl, ⟨a, us, rfl, ha, hu⟩, h2⟩ := all2_cons h
    have ev := all2_is (xs := [.str q.1, .int q.2]) hu
    subst ev
    obtain ⟨qs, rfl, hq⟩ := ih h2
    exact ⟨a :: qs, rfl, .cons (SqT.of ha) hq⟩
theorem norm_sm {raw : Pz} (h : raw.Raw) (hl : raw.length ≤ 5) (hi : ∀ q ∈ raw, q.2 ≤ 100000000000) : (norm raw).Sm := by
  refine ⟨h.norm, Nat.le_trans (norm_len _) hl, fun q hq => ?_⟩
  obtain ⟨h1, h2, _⟩ := mem_norm.mp hq
  obtain ⟨r, hr, _, e⟩ := look_at h1
  rw [h2, e]
  exact hi r hr
end
section
variable {w : World} {K : PySem.W.Frag} {mg : Str → Option Value} {base : Heap}
abbrev NP : List Str := ["_law_pen_here", "_law_some", "_law_held", "_law_turn", "_law_title", "_law_one", "_law_other"]
theorem sc_law_pauses_right : FnScope NP ["_law_pen_here"] (defScope s_law_pauses_right) := ⟨rfl, rfl, rfl, by decide +kernel, rfl, by decide +kernel, by decide +kernel⟩
def spPaR (K : PySem.W.Frag) (d : Nat) : Sp := fun vs H Q _ => ∃ (p c : Addr) (N : Nat), vs = [.ref p] ∧ penAt N p c H ∧ N + d ≤ 1000000 ∧ ∀ H', KeepX p H H' → penAt (N + d) p c H' → Q (.bl true) H'
theorem ok_law_pauses_right (G : Fc K mg) : Fn R.prog w K mg base 10 (f_law_pauses_right K) (spPaR K 30) := by
  refine fnA G.d_law_pauses_right sc_law_pauses_right (fun _ _ _ _ _ _ us hl => match us, hl with | [_], _ => rfl) (fun vs H Q h => ?_) (fun vs H Q E h => h) (fun cdv A outer s H vs Q hr h => ?_)
  · obtain ⟨p, c, N, rfl, _⟩ := h
    rfl
  · obtain ⟨p, c, N, rfl, hp, hN, k⟩ := h
    have nd := sc_law_pauses_right.nd
    refine ⟨_, pss_cons (ps_par (i := 1) (j := 2) rfl nd rfl rfl (by decide) rfl rfl (pa_cons (pe_lst (pa_cons pe_str (pa_cons pe_str (pa_cons pe_str (pa_cons pe_str (pa_cons pe_str pa_nil)))))) (pa_cons (pe_lst pa_nil) pa_nil)) (by rfl)) <|
      pss_cons (ps_for PassesOwn.never rfl (pi_range1 (by rfl) G.b_range (pa_cons pe_int pa_nil)) (pg_name (i := 3) nd rfl (Or.inl rfl))
        (pss_one (ps_expr (pe_bm PySem.F.plainAttrs_list PySem.F.slot_list_append PySem.F.type_list_append mt_append (pv 2) (pa_cons (pe_s G.st_Pauses_of (ok_Pauses_of G) hr (pe_glob (v := .ref (cPauses K)) (by rfl) G.g_Pauses rfl) (pa_cons (pe_callTy (call_dictP rfl) (by rfl) G.b_dict (by decide +kernel) (pa_cons
          (pe_lc (te := tTup (tCons (tVar 4) (tCons (tF (spPick K) (tCons (tVar 0) (tCons (tLst (tCons (tC (.int 0)) (tCons (tC (.int 1)) (tCons (tC (.int 2)) (tCons (tDraw (tOp (rI CPow fun i j => .int (i ^ j.toNat)) (tC (.int 10)) (tC (.int 11)))) tNil))))) tNil))) tNil))) (tt := tYes) (own := [("_law_title", 4)]) (g := gName 4) (by rfl) nd (pi_list (pv 1)) (blkOk_by (own := [("_law_title", 4)]) (N := NP) (sc := defScope s_law_pauses_right) (by decide +kernel))
            (fun _ _ _ _ _ => pg_name (i := 4) nd rfl (Or.inl rfl)) (fun _ _ _ _ _ => pts_nil) (fun _ _ _ _ _ => pe_tup (pa_cons (pv 4) (pa_cons (pe_f (ok_law_pick G) hr G.g_law_pick G.d_law_pick.choose_spec.kp (pa_cons (pv 0) (pa_cons (pe_lst (pa_cons pe_int (pa_cons pe_int (pa_cons pe_int (pa_cons (pe_f (ok_law_draw G) hr G.g_law_draw G.d_law_draw.choose_spec.kp (pa_cons (pv 0) (pa_cons (pe_op op_pow pe_int pe_int) pa_nil))) pa_nil))))) pa_nil))) pa_nil)))) pa_nil)) pa_nil)) pa_nil))))) <|
      pss_cons (ps_asg (pv 2) (pg_lst rfl (pgs_cons (pg_name (i := 5) nd rfl (Or.inl rfl)) (pgs_cons (pg_name (i := 6) nd rfl (Or.inl rfl)) pgs_nil)))) <|
      pss_cons (ps_if (PW.pt (pw_or (pt_cmpR (op_neQ (ok_Pauses_eq G) hr) (pe_op (op_addQ (ok_Pauses_add G) hr) (pe_op (op_orQ (ok_Pauses_or G) hr) (pv 5) (pv 6)) (pe_op (op_andQ (ok_Pauses_and G) hr) (pv 5) (pv 6))) (pe_op (op_addQ (ok_Pauses_add G) hr) (pv 5) (pv 6)) (nomark _))
          (pw_or (pt_not (pt_cmpR (op_cmpO (op := .LtE) (ok_Pauses_le G) hr) (pe_op (op_andQ (ok_Pauses_and G) hr) (pv 5) (pv 6)) (pv 5) (nomark _)))
            (pw_or1 (pt_not (pt_cmpR (op_cmpO (op := .GtE) (ok_Pauses_ge G) hr) (pe_op (op_orQ (ok_Pauses_or G) hr) (pv 5) (pv 6)) (pv 6) (nomark _))))))) pss_never pss_nil) <|
      pss_cons (ps_if (PW.pt (pw_or (pt_cmpR (op_neQ (ok_Pauses_eq G) hr) (pe_s G.st_Pauses_read (ok_Pauses_read G) hr (pe_glob (v := .ref (cPauses K)) (by rfl) G.g_Pauses rfl) (pa_cons (pe_callTy (call_strP (ok_Pauses_str G) hr) (by rfl) G.b_str (by decide +kernel) (pa_cons (pv 5) pa_nil)) pa_nil)) (pv 5) (nomark _))
          (pw_or (pt_cmpR (op_neQ (ok_Pauses_eq G) hr) (pe_op (op_orQ (ok_Pauses_or G) hr) (pv 5) (pv 5)) (pv 5) (nomark _))
            (pw_or (pt_cmpR (op_neQ (ok_Pauses_eq G) hr) (pe_op (op_andQ (ok_Pauses_and G) hr) (pv 5) (pe_kw0 G.m_Pauses (ok_Pauses_init G) hr G.g_Pauses)) (pe_kw0 G.m_Pauses (ok_Pauses_init G) hr G.g_Pauses) (nomark _))
              (pw_or1 (pt_cmpR (op_neQ (ok_Pauses_eq G) hr) (pe_op (op_addQ (ok_Pauses_add G) hr) (pv 5) (pe_kw0 G.m_Pauses (ok_Pauses_init G) hr G.g_Pauses)) (pv 5) (nomark _))))))) pss_never pss_nil) <|
      pss_cons (ps_set (i := 4) nd rfl (Or.inl rfl) (pe_f (ok_law_pick G) hr G.g_law_pick G.d_law_pick.choose_spec.kp (pa_cons (pv 0) (pa_cons (pv 1) pa_nil)))) <|
      pss_cons (ps_if (PW.pt (pw_or (pt_cmpR (op_neQ (ok_Pauses_eq G) hr) (pe_m hr (pv 5) (pa_cons (pv 4) (pa_cons (pe_ixO (ok_Pauses_getitem G) hr (pv 5) (pv 4)) pa_nil))) (pv 5) (nomark _))
          (pw_or1 (pt_cmpR (op_neQ (ok_Pauses_eq G) hr) (pe_m hr (pe_m hr (pv 5) (pa_cons (pv 4) (pa_cons pe_int pa_nil))) (pa_cons (pv 4) (pa_cons (pe_ixO (ok_Pauses_getitem G) hr (pv 5) (pv 4)) pa_nil))) (pv 5) (nomark _))))) pss_never pss_nil) <|
      pss_one (ps_ret (pe_and (pe_cmpR op_eq (pe_cmpR (op_cmpO (op := .LtE) (ok_Pauses_le G) hr) (pv 5) (pv 6) (nomark _)) (pe_cmpR (op_cmpO (op := .Eq) (ok_Pauses_eq G) hr) (pe_op (op_orQ (ok_Pauses_or G) hr) (pv 5) (pv 6)) (pv 6) (nomark _)) (nomark _))
        (pe_one (pe_cmpR op_eq (pe_cmpR (op_cmpO (op := .Lt) (ok_Pauses_lt G) hr) (pv 5) (pv 6) (nomark _)) (pe_and (pe_cmpR (op_cmpO (op := .LtE) (ok_Pauses_le G) hr) (pv 5) (pv 6) (nomark _)) (pe_one (pe_cmpR (op_neQ (ok_Pauses_eq G) hr) (pv 5) (pv 6) (nomark _)))) (nomark _))))), ?_⟩
    refine ⟨by show 5 ≤ sizeLine; decide, fun sm hsm => ?_⟩
    refine ⟨by show 0 ≤ sizeLine; decide, fun f hf => ?_⟩
    refine ⟨_, _, rfl, ?_⟩
    have e1 := same_new (o := .lst (SOME.map V.str)) hsm
    have e2 := same_new (o := .lst []) hf
    have hf0 : H f = none := none_of e1 hf
    have hcp : c ≠ p := by obtain ⟨ns, t, r, h1, _⟩ := hp; exact h1
    have A1 : PA p c sm f H := by
      obtain ⟨o, ho⟩ := hp.hasP
      obtain ⟨u, hu⟩ := hp.hasC
      refine ⟨hsm, hf0, ?_, ?_, ?_, hcp, ?_, ?_⟩
      · rintro rfl; rw [ho] at hsm; cases hsm
      · rintro rfl; rw [ho] at hf0; cases hf0
      · rintro rfl
        have : upd H sm (.lst (SOME.map V.str)) sm = none := hf
        rw [upd_same] at this; cases this
      · rintro rfl; rw [hu] at hsm; cases hsm
      · rintro rfl; rw [hu] at hf0; cases hf0
    have S0 : PS K p c sm f H N [] (upd (upd H sm (.lst (SOME.map V.str))) f (.lst [])) := ⟨Same.keepX (e1.trans e2), hp.mono (e1.trans e2) (Nat.le_refl _), e2 _ _ upd_same, [], upd_same, .nil⟩
    show tSeq _ _ _ [some (.ref p), some (.ref sm), some (.ref f), none, none, none, none] (upd (upd H sm (.lst (SOME.map V.str))) f (.lst []))
    generalize upd (upd H sm (.lst (SOME.map V.str))) f (.lst []) = H1 at S0
    refine ⟨2, rfl, by decide, by decide, ?_⟩
    rw [show (2 : Int).toNat = 2 from rfl]
    refine for_range (fun i σ H' => (∃ s3, σ = [some (.ref p), some (.ref sm), some (.ref f), s3, none, none, none]) ∧ ∃ ls : List Pz, ls.length = i ∧ (∀ l ∈ ls, l.Sm) ∧ PS K p c sm f H (N + 10 * i) ls H') ⟨⟨_, rfl⟩, [], rfl, fun l h => absurd h List.not_mem_nil, S0⟩ ?_ ?_
    · rintro i σ H2 hi ⟨⟨s3, rfl⟩, ls, hls, hsml, S2⟩
      obtain ⟨vs2, hf2, hv2⟩ := id S2.held
      refine ⟨_, rfl, .inl ⟨rfl, _, SqL.of hf2⟩, ?_⟩
      refine ⟨rfl, ?_⟩
      refine ⟨_, rfl, sm, rfl, ⟨_, SqL.of S2.smt⟩, fun D hD => ?_⟩
      have hDp : D ≠ p := by obtain ⟨o, ho⟩ := S2.pen.hasP; rintro rfl; rw [ho] at hD; cases hD
      have hDc : D ≠ c := by obtain ⟨o, ho⟩ := S2.pen.hasC; rintro rfl; rw [ho] at hD; cases hD
      have hDs : D ≠ sm := by rintro rfl; rw [S2.smt] at hD; cases hD
      have hDf : D ≠ f := by rintro rfl; rw [hf2] at hD; cases hD
      have hD0 : H D = none := by
        cases q : H D with
        | none => rfl
        | some o => rw [S2.keep _ _ hDp q] at hD; cases hD
      refine lc_it (walk_list (K := K) (a := sm) (xs := SOME.map V.str)) (fun n H' => PS K p c sm f H (N + 10 * i + 2 * n) ls H' ∧ ∃ (raw : Pz) (vs : List V), keysP raw = SOME.take n ∧ (∀ q ∈ raw, 0 ≤ q.2 ∧ q.2 ≤ 100000000000) ∧ H' D = some (.lst vs) ∧ All2 (raw.map pairQ) vs H') ⟨S2.same A1 (same_new hD), [], [], rfl, fun q h => absurd h List.not_mem_nil, upd_same, .nil⟩ (fun n H' _ q => SqL.of q.1.smt) ?_ ?_
      · rintro n x H3 H4 hn ⟨S3, raw, vs, hk, hb, hd, hall⟩ ⟨rfl, hx⟩
        rw [List.getElem?_map] at hx
        cases hz : SOME[n]? with
        | none => rw [hz] at hx; cases hx
        | some z =>
          rw [hz] at hx
          cases hx
          have hn5 : n < 5 := hn
          refine ⟨rfl, ?_⟩
          refine ⟨_, rfl, _, rfl, ?_⟩
          have h11 : ((10 : Int) ^ (11 : Int).toNat) = 100000000000 := by decide
          have hpw := ev_op (σ := [some (.ref p), some (.ref sm), some (.ref f), some (.int (0 + (i : Nat))), some (.str z), none, none]) (H := H4) (ev_k (v := .int 10)) (ev_k (v := .int 11)) (rp_I (D := CPow) (g := fun i j => .int (i ^ j.toNat)) ⟨by decide, by decide, by decide⟩)
          rw [h11] at hpw
          refine d_draw rfl hpw S3.pen (by omega) (by decide) (by decide) fun d H5 k5 hp5 d0 d1 => ?_
          have S5 := S3.draw A1 k5 hp5
          refine ⟨by show 4 ≤ sizeLine; decide, fun q hq => ?_⟩
          have eq := same_new (o := .lst [V.int 0, V.int 1, V.int 2, V.int d]) hq
          have hqp : q ≠ p := by obtain ⟨o, ho⟩ := hp5.hasP; rintro rfl; rw [ho] at hq; cases hq
          refine ⟨p, c, q, _, _, rfl, hp5.mono eq (Nat.le_refl _), by omega, hqp, .inl upd_same, List.cons_ne_nil _ _, (by show 4 ≤ 1000; decide), fun j v H6 k6 hp6 hv => ?_⟩
          have hvn : ∃ y : Int, v = .int y ∧ 0 ≤ y ∧ y ≤ 100000000000 := by
            have hm := List.mem_of_getElem? hv
            simp only [List.mem_cons, List.not_mem_nil, or_false] at hm
            rcases hm with rfl | rfl | rfl | rfl
            · exact ⟨_, rfl, by decide, by decide⟩
            · exact ⟨_, rfl, by decide, by decide⟩
            · exact ⟨_, rfl, by decide, by decide⟩
            · exact ⟨_, rfl, by omega, by omega⟩
          obtain ⟨y, rfl, y0, y1⟩ := hvn
          have S6 := (S5.same A1 eq).draw A1 k6 hp6
          refine ⟨by show 2 ≤ sizeLine; decide, fun T hT => ?_⟩
          have eT := same_new (o := .tup [V.str z, V.int y]) hT
          have S7 := S6.same A1 eT
          have hd6 := k6 _ _ hDp (eq _ _ (k5 _ _ hDp hd))
          have hd7 := eT _ _ hd6
          have hTD : T ≠ D := by rintro rfl; rw [hd6] at hT; cases hT
          have nl7 : NL H4 (upd H6 T (.tup [V.str z, V.int y])) := (((nl_draw k5 S3.pen hp5).trans (nl_same eq)).trans (nl_draw k6 (hp5.mono eq (Nat.le_refl _)) hp6)).trans (nl_same eT)
          have hlv : vs.length = raw.length := by rw [← hall.length]; exact List.length_map _
          have hlr : raw.length ≤ 5 := by
            rw [← keys_len2, hk, List.length_take]
            omega
          refine ⟨vs, hd7, small1000 (by omega), (S7.put A1 hD0 hDp hDc hDs hDf hd7).le (by omega), raw ++ [(z, y)], vs ++ [.ref T], ?_, fun r hr => ?_, upd_same, ?_⟩
          · unfold keysP at hk ⊢
            rw [List.map_append, hk, List.take_succ, hz]
            rfl
          · rcases List.mem_append.mp hr with hr | hr
            · exact hb r hr
            · rw [List.mem_singleton.mp hr]; exact ⟨y0, y1⟩
          · rw [List.map_append]
            refine (StabL.st (nl7.trans (nl_put hd7)) hall).app (.cons ⟨T, _, rfl, by rw [upd_ne hTD]; exact upd_same, .cons rfl (.cons rfl .nil)⟩ .nil)
      · rintro H3 ⟨S3, raw, vs, hk, hb, hd, hall⟩
        have hk5 : keysP raw = SOME := hk
        obtain ⟨qs, rfl, hqs⟩ := pairs_run (K := K) hall
        have hraw : raw.Raw := ⟨by rw [hk5]; exact some_nd, by rw [hk5]; exact some_ok, fun q hq => (hb q hq).1, fun q hq => Int.le_trans (hb q hq).2 (by decide), by rw [← keys_len2, hk5]; decide⟩
        have hl5 : raw.length ≤ 5 := by rw [← keys_len2, hk5]; decide
        refine ⟨D, qs, inrs (pzV raw), rfl, SqL.of hd, hqs, fun d hd0 => ?_⟩
        have em : mergeK [] (inrs (pzV raw)) = inrs (pzV raw) := merge_new (kvs := []) (by rw [List.nil_append, pzV_keys]; exact hraw.nd)
        rw [em]
        have ed := same_new (o := .dK (inrs (pzV raw))) hd0
        refine sp_pauOf (K := K) (H := upd H3 d (.dK (inrs (pzV raw)))) hraw _ (Same.refl _) _ (.cons ⟨d, rfl, upd_same⟩ .nil) _ fun v H4 e4 hv => ?_
        have S4 := (S3.same A1 ed).same A1 e4
        obtain ⟨vs4, hf4, hv4⟩ := id S4.held
        have hl4 : vs4.length = ls.length := by rw [← hv4.length]; exact List.length_map _
        refine ⟨f, vs4, v, rfl, rfl, hf4, small1000 (by omega), ⟨_, rfl⟩, ls ++ [norm raw], by rw [List.length_append, hls]; rfl, fun l hl => ?_, ?_⟩
        · rcases List.mem_append.mp hl with hl | hl
          · exact hsml l hl
          · rw [List.mem_singleton.mp hl]; exact norm_sm hraw hl5 fun q hq => (hb q hq).2
        · refine ⟨KeepX.upd0 S4.keep A1.f0, pen_upd (S4.pen.mono (Same.refl _) (by show N + 10 * i + 2 * 5 ≤ _; omega)) A1.pf A1.cf.symm, by rw [upd_ne A1.sf]; exact S4.smt, vs4 ++ [v], upd_same, ?_⟩
          rw [List.map_append]
          exact (StabL.st (nl_put hf4) hv4).app (.cons (Stab.st (nl_put hf4) hv) .nil)
    · rintro σ H2 ⟨⟨s3, rfl⟩, ls, hls, hsml, S2⟩
      obtain ⟨l, m, rfl⟩ : ∃ l m, ls = [l, m] := by
        match ls, hls with
        | [l, m], _ => exact ⟨l, m, rfl⟩
      have L : l.Sm := hsml l (.head _)
      have M : m.Sm := hsml m (.tail _ (.head _))
      obtain ⟨vs2, hf2, hv2⟩ := S2.held
      obtain ⟨v1, ws, rfl, hl2, hv3⟩ := all2_cons hv2
      obtain ⟨v2, ws, rfl, hm2, hv4⟩ := all2_cons hv3
      cases hv4
      refine ⟨_, rfl, f, _, rfl, SqL.of hf2, rfl, _, _, rfl, _, _, rfl, rfl, ?_⟩
      show tSeq _ _ _ [some (.ref p), some (.ref sm), some (.ref f), s3, none, some v1, some v2] H2
      have okl := L.ok
      have okm := M.ok
      have v5 : ∀ (σ : L2.St) (H' : Hp), σ[5]? = some (some v1) → Same H2 H' → EvP (tVar 5) σ H' (pauQ K l) := fun σ H' h e => ev_var h (Mono.mono e hl2)
      have v6 : ∀ (σ : L2.St) (H' : Hp), σ[6]? = some (some v2) → Same H2 H' → EvP (tVar 6) σ H' (pauQ K m) := fun σ H' h e => ev_var h (Mono.mono e hm2)
      have s0 := Same.refl H2
      -- + | &
      have tle := ev_op (ev_op (v5 [some (.ref p), some (.ref sm), some (.ref f), s3, none, some v1, some v2] H2 rfl s0) (v6 _ H2 rfl s0) (rp_combP (nm := "__and__") G G.h_Pauses_and okl okm (raw_min L M))) (v5 _ H2 rfl s0) (rp_cmpP (F := leP) (nm := "__le__") G G.h_Pauses_le (raw_min L M).norm okl)
      rw [law_le L M] at tle
      have tge := ev_op (ev_op (v5 [some (.ref p), some (.ref sm), some (.ref f), s3, none, some v1, some v2] H2 rfl s0) (v6 _ H2 rfl s0) (rp_combP (nm := "__or__") G G.h_Pauses_or okl okm (raw_max L M))) (v6 _ H2 rfl s0) (rp_cmpP (F := fun l m => leP m l) (nm := "__ge__") G G.h_Pauses_ge (raw_max L M).norm okm)
      rw [law_ge L M] at tge
      refine s_skip (et_or (et_test (ev_op (ev_peq (ev_op (ev_op (v5 _ _ rfl s0) (v6 _ _ rfl s0) (rp_combP G G.h_Pauses_or okl okm (raw_max L M))) (ev_op (v5 _ _ rfl s0) (v6 _ _ rfl s0) (rp_combP G G.h_Pauses_and okl okm (raw_min L M))) (rp_combP G G.h_Pauses_add (raw_max L M).norm (raw_min L M).norm (raw_sum L M))) (law_sum L M)) (ev_op (v5 _ _ rfl s0) (v6 _ _ rfl s0) (rp_combP G G.h_Pauses_add okl okm (raw_add L M))) (rp_neP G (raw_add L M).norm))) fun _ =>
        et_or (et_not (b := true) (et_test tle)) fun _ => et_not (b := true) (et_test tge)) fun H3 e3 => ?_
      have N0 : Pz.Sm [] := sm_nil L
      refine s_skip (et_or (et_test (ev_op (ev_s ev_k (ea_cons (ev_cb (ea_cons (v5 _ _ rfl e3) ea_nil) (cp_strP G okl)) ea_nil) (sp_readP okl)) (v5 _ _ rfl e3) (rp_neP G okl))) fun _ =>
        et_or (et_test (ev_op (ev_peq (ev_op (v5 _ _ rfl e3) (v5 _ _ rfl e3) (rp_combP G G.h_Pauses_or okl okl (raw_max L L))) (law_same L)) (v5 _ _ rfl e3) (rp_neP G okl))) fun _ =>
        et_or (et_test (ev_op (ev_peq (ev_op (v5 _ _ rfl e3) ev_kw0 (rp_combP G G.h_Pauses_and okl ok_nil (raw_min L N0))) (law_none L)) ev_kw0 (rp_neP G ok_nil))) fun _ =>
        et_test (ev_op (ev_peq (ev_op (v5 _ _ rfl e3) ev_kw0 (rp_combP G G.h_Pauses_add okl ok_nil (raw_add L N0))) (law_zero L)) (v5 _ _ rfl e3) (rp_neP G okl))) fun H4 e4 => ?_
      have e24 := e3.trans e4
      have hp4 := S2.pen.mono e24 (Nat.le_refl _)
      have hs4 := e24 _ _ S2.smt
      refine ⟨_, rfl, _, rfl, p, c, sm, N + 10 * 2, SOME.map V.str, rfl, hp4, by omega, A1.ps, .inl hs4, List.cons_ne_nil _ _, (by show 5 ≤ 1000; decide), fun j v H5 k5 hp5 hv => ?_⟩
      rw [List.getElem?_map] at hv
      cases hz : SOME[j]? with
      | none => rw [hz] at hv; cases hv
      | some z =>
      rw [hz] at hv
      cases hv
      have hzn := some_ok z (List.mem_of_getElem? hz)
      show tSeq _ _ _ [some (.ref p), some (.ref sm), some (.ref f), s3, some (.str z), some v1, some v2] H5
      have nl5 : NL H4 H5 := nl_draw k5 hp4 hp5
      have hl5 : pauQ K l v1 H5 := Stab.st nl5 (Mono.mono e24 hl2)
      have hm5 : pauQ K m v2 H5 := Stab.st nl5 (Mono.mono e24 hm2)
      have u5 : ∀ (σ : L2.St) (H' : Hp), σ[5]? = some (some v1) → Same H5 H' → EvP (tVar 5) σ H' (pauQ K l) := fun σ H' h e => ev_var h (Mono.mono e hl5)
      have u6 : ∀ (σ : L2.St) (H' : Hp), σ[6]? = some (some v2) → Same H5 H' → EvP (tVar 6) σ H' (pauQ K m) := fun σ H' h e => ev_var h (Mono.mono e hm5)
      have s5 := Same.refl H5
      have l6 : l.length < 60 := by have := L.len; omega
      have mpt : ∀ (l' : Pz) (i : Int) (H' : Hp), l'.Ok → 0 ≤ i → i ≤ 1000000000000 → l'.length < 60 → MethP (cxOf CX0 R.prog w K mg base NP "_law_pauses_right" (defScope s_law_pauses_right) (f_law_pauses_right K) cdv A outer s H E0).nox 9 "put" (pauQ K l') [is (.str z), is (.int i)] H' (pauQ K (norm (putP l' z i))) := fun l' i H' o h0 h1 hl => mp_put G ⟨rfl, rfl, rfl⟩ o hzn h0 h1 hl
      have vz : ∀ H' : Hp, EvP (tVar 4) [some (.ref p), some (.ref sm), some (.ref f), s3, some (.str z), some v1, some v2] H' (is (.str z)) := fun H' => ev_v rfl
      have lk0 := okl.nonneg z
      have lk1 := look_le L z
      have p6 : (norm (putP l z 0)).length < 60 := by have := put0_len L (z := z); omega
      refine s_skip (et_or (et_test (ev_op (ev_peq (ev_m (u5 _ _ rfl s5) (ea_cons (vz _) (ea_cons (ev_op (u5 _ _ rfl s5) (vz _) (rp_pget G hzn)) ea_nil)) (mpt l (look l z) _ okl lk0 lk1 l6)) (law_put L hzn)) (u5 _ _ rfl s5) (rp_neP G okl))) fun _ =>
        et_test (ev_op (ev_peq (ev_m (ev_m (u5 _ _ rfl s5) (ea_cons (vz _) (ea_cons ev_k ea_nil)) (mpt l 0 _ okl (by decide) (by decide) l6)) (ea_cons (vz _) (ea_cons (ev_op (u5 _ _ rfl s5) (vz _) (rp_pget G hzn)) ea_nil)) (mpt _ (look l z) _ (put0_ok L hzn) lk0 lk1 p6)) (law_put2 L hzn)) (u5 _ _ rfl s5) (rp_neP G okl))) fun H6 e6 => ?_
      have g1 := ev_op (ev_op (u5 [some (.ref p), some (.ref sm), some (.ref f), s3, some (.str z), some v1, some v2] H6 rfl e6) (u6 _ H6 rfl e6) (rp_cmpP (F := leP) (nm := "__le__") G G.h_Pauses_le okl okm))
        (ev_op (ev_op (u5 _ H6 rfl e6) (u6 _ H6 rfl e6) (rp_combP (nm := "__or__") G G.h_Pauses_or okl okm (raw_max L M))) (u6 _ H6 rfl e6) (rp_cmpP (F := fun l m => decide (l = m)) (nm := "__eq__") G G.h_Pauses_eq (raw_max L M).norm okm)) (rp_eq rfl)
      rw [decide_eq_true (by show V.bl (leP l m) = V.bl (decide (norm (combR gmax l m) = m)); rw [law_leq L M])] at g1
      have g2 := ev_op (ev_op (u5 [some (.ref p), some (.ref sm), some (.ref f), s3, some (.str z), some v1, some v2] H6 rfl e6) (u6 _ H6 rfl e6) (rp_cmpP (F := fun l m => !decide (l = m) && leP l m) (nm := "__lt__") G G.h_Pauses_lt okl okm))
        (ev_andV (ev_op (u5 _ H6 rfl e6) (u6 _ H6 rfl e6) (rp_cmpP (F := leP) (nm := "__le__") G G.h_Pauses_le okl okm)) fun _ => ev_op (u5 _ H6 rfl e6) (u6 _ H6 rfl e6) (rp_nePau G okl okm)) (rp_eq rfl)
      rw [decide_eq_true (by show V.bl (!decide (l = m) && leP l m) = V.bl (leP l m && !decide (l = m)); rw [Bool.and_comm])] at g2
      refine s_ret (ev_andV g1 fun _ => g2) fun v H7 e7 hv => ?_
      cases hv
      exact k H7 ((KeepX.trans (S2.keep.same e24) k5).same (e6.trans e7)) (hp5.mono (e6.trans e7) (by omega))
end
end K22

set_option Elab.async false
set_option linter.all false
set_option pp.maxSteps 400
set_option maxRecDepth 100000
set_option maxHeartbeats 4000000
/-! G16: the law. -/
namespace K22
open PySem PySem.Spec PyProof.Rows L2
theorem rows_ok {long : Int} {ts : List Tr} {spots : List Str} (hl : ts.length ≤ 12) (h : ∀ t ∈ ts, t.Ok ∧ t.leaves < long ∧ t.takes ≤ 2 * long + 1 ∧ t.start ∈ spots ∧ t.goal ∈ spots ∧ t.name ∈ TITLES) (nd : (ts.map (·.name)).Nodup) (bal : balT ts) (hs : spots.length ≤ 4) : RowsOk long ts ∧ (places ts).length ≤ 4 := by
  have h4 : (places ts).length ≤ 4 := Nat.le_trans (nodup_le (strict_nd (uniqT_strict _)) fun z hz => by
    obtain ⟨t, ht, e⟩ := places_mem.mp hz
    rcases e with e | e
    · rw [e]; exact (h t ht).2.2.2.1
    · rw [e]; exact (h t ht).2.2.2.2.1) hs
  exact ⟨⟨fun t ht => (h t ht).1, fun t ht => (h t ht).2.1, nd, by omega, bal, by omega⟩, h4⟩
section
variable {w : World} {K : PySem.W.Frag} {mg : Str → Option Value} {base : Heap}
abbrev NW : List Str := ["_law_script", "_law_pen_here", "_law_lap", "_law_long", "_law_made"]
theorem sc_law : FnScope NW ["_law_script"] (defScope s_law) := ⟨rfl, rfl, rfl, by decide +kernel, rfl, by decide +kernel, by decide +kernel⟩
def spLaw (K : PySem.W.Frag) : Sp := fun vs H Q _ => ∃ (l : Addr) (ns : List Int), vs = [.ref l] ∧ SqL K H l (ns.map V.int) ∧ ns.length ≤ 63 ∧ ∀ H', Q (.bl true) H'
theorem ok_law (G : Fc K mg) {fd : FuncData} (F : FunD K "law" "law" (defArgs s_law) (defBody s_law) (defScope s_law) [] [] (f_law K) fd) : FnOk R.prog w K mg base CX0 11 (f_law K) fd ["_law_script"] (spLaw K) := by
  refine F.ok sc_law (fun vs H Q E h => ?_) (fun cdv A outer s H vs Q E hr h => ?_)
  · obtain ⟨l, ns, rfl, _⟩ := h
    rfl
  · obtain ⟨l, ns, rfl, hl, hn, k⟩ := h
    have nd := sc_law.nd
    refine ⟨_, PSs.nox (pss_cons (ps_set (i := 1) nd rfl (Or.inl rfl) (pe_f (ok_law_pen G) hr G.g_law_pen G.d_law_pen.choose_spec.kp (pa_cons (pv 0) pa_nil))) <|
      pss_cons (ps_for PassesOwn.never rfl (pi_range1 (by rfl) G.b_range (pa_cons pe_int pa_nil)) (pg_name (i := 2) nd rfl (Or.inl rfl))
        (pss_cons (ps_set (i := 3) nd rfl (Or.inl rfl) (pe_f (ok_law_pick G) hr G.g_law_pick G.d_law_pick.choose_spec.kp (pa_cons (pv 1) (pa_cons (pe_lst (pa_cons pe_int (pa_cons pe_int (pa_cons pe_int (pa_cons pe_int (pa_cons (pe_op op_pow pe_int pe_int) pa_nil)))))) pa_nil)))) <|
         pss_cons (ps_set (i := 4) nd rfl (Or.inl rfl) (pe_f (ok_law_table G) hr G.g_law_table G.d_law_table.choose_spec.kp (pa_cons (pv 3) (pa_cons (pe_f (ok_law_rows G) hr G.g_law_rows G.d_law_rows.choose_spec.kp (pa_cons (pv 1) (pa_cons (pv 3) (pa_cons pe_int pa_nil)))) pa_nil)))) <|
         pss_cons (ps_if (PW.pt (pw_or (pt_not (pt_val (pe_f (ok_law_trips_right G) hr G.g_law_trips_right G.d_law_trips_right.choose_spec.kp (pa_cons (pv 1) (pa_cons (pv 4) (pa_cons (pv 3) pa_nil))))))
            (pw_or1 (pt_not (pt_val (pe_f (ok_law_moved_right G) hr G.g_law_moved_right G.d_law_moved_right.choose_spec.kp (pa_cons (pv 1) (pa_cons (pv 4) (pa_cons (pv 3) pa_nil))))))))) pss_never pss_nil) <|
         pss_one (ps_if (PW.pt (pw_or (pt_not (pt_val (pe_f (ok_law_scaled_right G) hr G.g_law_scaled_right G.d_law_scaled_right.choose_spec.kp (pa_cons (pv 1) (pa_cons (pv 4) pa_nil)))))
            (pw_or (pt_not (pt_val (pe_f (ok_law_loops_right G) hr G.g_law_loops_right G.d_law_loops_right.choose_spec.kp (pa_cons (pv 1) (pa_cons (pv 4) (pa_cons (pv 3) pa_nil))))))
              (pw_or1 (pt_not (pt_val (pe_f (ok_law_pauses_right G) hr G.g_law_pauses_right G.d_law_pauses_right.choose_spec.kp (pa_cons (pv 1) pa_nil)))))))) pss_never pss_nil))) <|
      pss_one (ps_ret pe_bl)), ?_⟩
    refine ⟨_, rfl, l, ns, rfl, hl, hn, fun p c H1 e1 hp0 hc0 hp1 => ?_⟩
    refine ⟨5, rfl, by decide, by decide, ?_⟩
    rw [show (5 : Int).toNat = 5 from rfl]
    refine for_range (fun i σ H' => (∃ s2 s3 s4, σ = [some (.ref l), some (.ref p), s2, s3, s4]) ∧ penAt (500 * i) p c H') ⟨⟨_, _, _, rfl⟩, hp1⟩ ?_ ?_
    · rintro i σ H2 hi ⟨⟨s2, s3, s4, rfl⟩, hp2⟩
      have h9 : ((10 : Int) ^ (9 : Int).toNat) = 1000000000 := by decide
      refine ⟨_, rfl, 10, 9, rfl, rfl, ⟨by decide, by decide, by decide⟩, ?_⟩
      refine ⟨by show 5 ≤ sizeLine; decide, fun q hq => ?_⟩
      have eq := same_new (o := .lst [V.int 24, V.int 24, V.int 1, V.int 60, V.int (10 ^ (9 : Int).toNat)]) hq
      have hqp : q ≠ p := by obtain ⟨o, ho⟩ := hp2.hasP; rintro rfl; rw [ho] at hq; cases hq
      refine ⟨p, c, q, _, _, rfl, hp2.mono eq (Nat.le_refl _), by omega, hqp, .inl upd_same, List.cons_ne_nil _ _, (by show 5 ≤ 1000; decide), fun j v H3 k3 hp3 hv => ?_⟩
      have hvn : ∃ y : Int, v = .int y ∧ 1 ≤ y ∧ y ≤ 1000000000 := by
        have hm := List.mem_of_getElem? hv
        simp only [List.mem_cons, List.not_mem_nil, or_false] at hm
        rcases hm with rfl | rfl | rfl | rfl | rfl
        · exact ⟨_, rfl, by decide, by decide⟩
        · exact ⟨_, rfl, by decide, by decide⟩
        · exact ⟨_, rfl, by decide, by decide⟩
        · exact ⟨_, rfl, by decide, by decide⟩
        · exact ⟨_, rfl, by rw [h9]; decide, by rw [h9]; decide⟩
      obtain ⟨long, rfl, long1, long2⟩ := hvn
      refine ⟨_, rfl, _, rfl, _, rfl, p, c, _, long, rfl, hp3, by omega, long1, long2, fun b vs ts spots H4 k4 hp4 hb hvs hbp hb0 hlt hrows hnd hbal hspl hspt => ?_⟩
      obtain ⟨rok, hpl4⟩ := rows_ok hlt hrows hnd hbal hspl
      have okT : (mkT long ts).Ok := mkT_ok long1 (by omega) rok
      refine ⟨long, b, vs, ts, mkT long ts, rfl, hb, hvs, by omega, fun t ht => (hrows t ht).1, rfl, mkT_perm, okT, fun x H5 e5 hx => ?_⟩
      have hp5 := hp4.mono e5 (Nat.le_refl _)
      have hTl : (mkT long ts).rows.length ≤ 12 := by rw [← mkT_perm.length_eq]; exact hlt
      have hTp : (places (mkT long ts).rows).length ≤ 4 := by rw [← places_perm mkT_perm]; exact hpl4
      have hTt : ∀ t ∈ (mkT long ts).rows, t.takes ≤ 2000000001 := fun t ht => by
        have := (hrows t (mkT_perm.mem_iff.mpr ht)).2.2.1
        omega
      have hTn : ∀ z ∈ (mkT long ts).names, z ∈ TITLES := fun z hz => by
        obtain ⟨t, ht, rfl⟩ := List.mem_map.mp hz
        exact (hrows t (mkT_perm.mem_iff.mpr ht)).2.2.2.2.2
      generalize eT : mkT long ts = T at hx okT hTl hTp hTt hTn
      have hTd : T.day = long := by rw [← eT]; rfl
      subst hTd
      refine ⟨_, rfl, _, rfl, _, rfl, p, c, _, x, T, rfl, hp5, by omega, hx, okT, long2, fun H6 k6 hp6 => ⟨true, rfl, ?_⟩⟩
      refine iteF ?_
      have hx6 : tabQ K T x H6 := Stab.st (nl_draw k6 hp5 hp6) hx
      refine ⟨_, rfl, _, rfl, _, rfl, p, c, _, x, T, rfl, hp6, by omega, hx6, okT, long2, fun H7 k7 hp7 => ⟨true, rfl, ?_⟩⟩
      refine iteF ?_
      have hx7 : tabQ K T x H7 := Stab.st (nl_draw k7 hp6 hp7) hx6
      refine ⟨_, rfl, _, rfl, p, c, _, x, T, rfl, hp7, by omega, hx7, okT, long2, hTt, fun H8 k8 hp8 => ⟨true, rfl, ?_⟩⟩
      refine iteF ?_
      refine ⟨_, rfl, _, rfl, _, rfl, p, c, _, x, T, rfl, hp8, by omega, Stab.st (nl_draw k8 hp7 hp8) hx7, okT, long2, by omega, by omega, hTn, fun H9 k9 hp9 => ⟨true, rfl, ?_⟩⟩
      refine iteF ?_
      refine ⟨_, rfl, p, c, _, rfl, hp9, by omega, fun H10 k10 hp10 => ⟨true, rfl, ?_⟩⟩
      refine iteF ?_
      exact ⟨⟨_, _, _, rfl⟩, hp10.mono (Same.refl _) (by omega)⟩
    · rintro σ H2 ⟨⟨s2, s3, s4, rfl⟩, hp2⟩
      exact k H2
end
end K22

set_option Elab.async false
set_option linter.all false
set_option maxRecDepth 100000
set_option maxHeartbeats 0
namespace K22
open PySem PySem.Spec PyProof.Rows L2
theorem end_F {w : World} {mg : Str → Option Value} {fa : Addr} {h : Heap} (Y : hk.says w h) (G : h.Ns mainGlobals mg) (hmg : mg ("law" : Str) = some (.ref fa)) :
    ∃ (K : PySem.W.Frag) (fd : FuncData) (sp : Sp), K.In h ∧ (∀ (s : Shared) (u : Value), BindsTo s fd ⟨[u], []⟩ [("_law_script", u)]) ∧
        (∀ (H : Hp) (a : Addr) (ns : List Int), ns.length ≤ 63 → Only H → SqL K H a (ns.map V.int) → sp [.ref a] H (fun v _ => v = .bl true) fun _ _ _ => False) ∧
        ∀ base : Heap, K.In base → base.Ns mainGlobals mg → FnOk R.prog w K mg base CX0 11 fa fd ["_law_script"] sp := by
  obtain ⟨K, KX, c⟩ := Y
  have GF : Fc K mg := ⟨c, ⟨h, KX, G⟩⟩
  obtain ⟨fd, F⟩ := GF.d_law
  have e := hmg.symm.trans GF.g_law
  have e2 : fa = f_law K := by
    injection e with e
    injection e
  subst e2
  have b := FunD.bindsA (ps := ["_law_script"]) F fun _ _ _ _ _ _ us hl => match us, hl with | [_], _ => rfl
  exact ⟨K, fd, spLaw K, KX, fun s v => b s [v] rfl, fun H a ns hl _ hS => ⟨a, ns, rfl, hS, hl, fun _ => rfl⟩, fun base _ _ => ok_law GF F⟩
theorem end_hc {q : Program} {loose : List Str} {XP : (Str → Option Value) → Heap → Prop} {d : DefRec} (hd : d.params.defaults = []) (hn : d.name = ("law" : Str)) : PySem.W.WalkO q loose XP hk.says (PySem.W.OpenLaw.row PySem.Challenge.rw_onelongturn_k22_whole_tables_and_their_p).toRowW d [] (fun f vs => PySem.call f vs) := by
  refine walk_ofE (l := PySem.Challenge.rw_onelongturn_k22_whole_tables_and_their_p) (n := 63) (k := 11) (x := "_law_script") (CX := CX0) rfl (by decide) hd ⟨rfl, by decide, by decide⟩ ?F (fun _ _ _ _ z => z)
  intro w mg fa h Y G hmg0
  rw [hn] at hmg0
  exact end_F Y G hmg0
end K22

set_option Elab.async false
set_option linter.all false
set_option maxRecDepth 100000
set_option maxHeartbeats 0
open PySem PySem.W PySem.Calls PyProof.Rows
theorem PySem.Challenge.cw_onelongturn_k22_whole_tables_and_their_p_holds : PySem.Challenge.rw_onelongturn_k22_whole_tables_and_their_p.Holds := by
  w_on; o_law
  refine HandSHeadRun.head_any (r := OpenLaw.row PySem.Challenge.rw_onelongturn_k22_whole_tables_and_their_p) (q := view (OpenLaw.row PySem.Challenge.rw_onelongturn_k22_whole_tables_and_their_p).prog [66]) (H := K22.hk) (ob := K22.ob) (M := 12000) (loose := K22.loose) (d := HandSHeadRun.topDef (OpenLaw.row PySem.Challenge.rw_onelongturn_k22_whole_tables_and_their_p).prog 66) (kwd := []) K22.ob_eq
    (by kernel_rfl) (fun s => by kernel_rfl) K22.run (by kernel_rfl) (by kernel_rfl) (by kernel_rfl) (by rfl) (by first | assumption | decide +kernel) (by decide +kernel) ⟨rfl, rfl, rfl, rfl, rfl, by decide +kernel⟩ ?hw ?hc
  case hw => w_witness2
  case hc => exact K22.end_hc (by kernel_rfl) (by kernel_rfl)
