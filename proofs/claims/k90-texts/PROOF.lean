import PyProof.Rows.All
import Wide.All
import OpenK.AllK
import Wide.FinOn
import PyProof.InstEq
import HandS.ForMost
import HandS.Defaults
import HandS.Star
import HandS.MakeKw
import HandS.MakeKwOnly
import HandS.Property
import HandS.ClsMeth
import HandS.IsInst
import HandS.FStr
import HandS.ExcInit
import HandS.WideBits
import HandS.HeadHook4
import HandS.Base
import HandS.Call
import HandS.List
import HandS.Exc
import HandS.HeadHook1
import HandS.HeadHook2
import HandS.HeadHook3
import HandS.ExcIs
import PySem.Challenge.RW_unlikecalls_k90_texts_and_wrong_lines
import KE.KStateDown
import Lean
import HandS.Head0
import HandS.Head1
import HandS.Head2
import PyProof.DictUpdate
import PyProof.DictTable
import HandS.Finally
import PyProof.ReprRoads
import HandS.Ends
import HandS.More
import HandS.HeadEnd
import HandS.EndBits
import HandS.Evl
import HandS.Walk
import HandS.DictComp
import PyProof.NeKinds
import HandS.Text
import KE.KExcIs
import HandS.ExcField
import HandS.ExcOwn
import KE.IntTextLaws
import HandS.TryOnly
import HandS.Zip
import HandS.RaiseMore
import HandS.WordsExc
import HandS.Small
import HandS.Style
import PyProof.StrLawsRepr
import PyProof.Rows.StrJoinMade
set_option Elab.async false
set_option linter.all false
set_option maxRecDepth 100000
set_option maxHeartbeats 0
/-! ## own rules: own == != in + of plain instances -/
namespace U
open PySem PySem.Spec PyProof.Rows L2
section
variable {prog : Program} {w : World} {A : Around} {E : Value → Shared → Prop} {s : Shared} {K : PySem.W.Frag} {x C L f : Addr} {h₀ : Heap} {m : Str → Option Value} {ox : Obj} {od : Option Obj} {b tb : Value}
theorem ne_K {Q : Value → Shared → Prop} (hu : A.units + 1 < cLine) (FR : Fr h₀ L s.heap m) (X₀ : K.In h₀) (I : PySem.W.InstAt s.heap x ox C od) (hb : PySem.W.Looks (model prog w) s.heap (typeOf b) tb) (hn : PySem.W.notFirst K C tb = true)
    (hne : PySem.W.findIn K (.ref C) "__ne__" = some (some (.builtin "object.__ne__"))) (hs : PySem.W.findIn K (.ref C) "__eq__" = some (some (.ref f))) (hf : PySem.W.isFn K (.ref f) = true) (hm : PySem.W.mroIn K C (.type "object") = some true)
    (h : wpAny (model prog w) A.in1 (call (.ref f) [.ref x, b]) (fun v s' => ∃ k, v = .bool k ∧ Q (.bool (!k)) s') E s) : wpAny (model prog w) A (richCompare .NotEq (.ref x) b) Q E s := by
  have X := X₀.keeps FR.keep
  have body : wpAny (model prog w) A.in1 (Builtin.«object.__ne__» ⟨[.ref x, b], []⟩) (fun fin s' => ∃ k, fin = .done (.ret (.bool (!k))) ∧ Q (.bool (!k)) s') E s := by
    unfold Builtin.«object.__ne__»
    have eqc : wpAny (model prog w) A.in1 (callSpecialIfBound? (.ref x) (Str.ofString "__eq__") [b]) (fun r s' => ∃ k, r = some (.bool k) ∧ Q (.bool (!k)) s') E s :=
      PySem.W.ifBound_K X I hs hf (wpAny_mono h (fun v s' hv => by
        obtain ⟨k, rfl, hq⟩ := hv
        exact ⟨k, rfl, hq⟩) fun _ _ e => e)
    repeat (first
      | with_reducible refine wpAny_cRoomFor (A := A.in1) hu ?_
      | (refine wpAny_bind (m := callSpecialIfBound? (.ref x) (Str.ofString "__eq__") [b]) (wpAny_mono eqc (fun r s' hr => by
          obtain ⟨k, rfl, hq⟩ := hr
          repeat (first | exact ⟨k, rfl, hq⟩ | exact wpAny_pure ⟨k, rfl, hq⟩ | exact wpAny_truthy_bool ⟨k, rfl, hq⟩ | (refine wpAny_bind (m := truthy (.bool _)) (wpAny_truthy_bool ?_)) | wp_step)) fun _ _ e => e))
      | wp_step)
  have one : wpAny (model prog w) A (tryCompare (.ref x) "__ne__" b) (fun r s' => ∃ v, r = some v ∧ Q v s') E s := by
    simp only [tryCompare]
    have sub : PySem.W.Looks (model prog w) s.heap (isInstance (.ref x) (.type "object")) true := I.type.andThen (PySem.W.looks_mroIn X hm)
    have cl : wpAny (model prog w) A (call (.builtin "object.__ne__") [.ref x, b]) (fun v s' => ∃ k, v = .bool (!k) ∧ Q (.bool (!k)) s') E s := by
      refine wpAny_call (codeAny_call_builtin (F.cmp_object.ne).plain F.cmpEntry_ne (PySem.W.check_slot F.cmpKind_ne F.cmpSplit_ne sub (F.cmpArgs_ne _ _) ?_))
      refine wpAny_mono body (fun fin s' hv => ?_) fun _ _ e => e
      obtain ⟨k, rfl, hq⟩ := hv
      exact ⟨k, rfl, hq⟩
    simp only [callSpecialIfBound?, bindSpecialIfBound?]
    refine wpAny_bind (wpAny_holding (wpAny_bind (wpAny_bind (wpAny_bind (I.type.here ((PySem.W.looks_findIn X hne).here ?_))))))
    simp only [(F.cmp_object.ne).bind]
    refine wpAny_bind (wpAny_askSetting (wpAny_ite ?_))
    have fin : wpAny (model prog w) A (call (.builtin "object.__ne__") ([.ref x] ++ [b]) >>= fun v => pure (some v)) (fun r s' => ∃ k, r = some (Value.bool (!k)) ∧ Q (.bool (!k)) s') E s := wpAny_bind (wpAny_mono cl (fun v s' h' => wpAny_pure (by
      obtain ⟨k, rfl, hq⟩ := h'
      exact ⟨k, rfl, hq⟩)) fun _ _ h' => h')
    split
    · refine wpAny_bind (wpAny_pure (wpAny_pure ?_))
      exact wpAny_mono fin (fun r s' hr => by
        obtain ⟨k, rfl, hq⟩ := hr
        exact wpAny_pure ⟨_, rfl, hq⟩) fun _ _ e => e
    · refine wpAny_tryCatch (wpAny_bind (wpAny_pure (wpAny_pure ?_)))
      exact wpAny_mono fin (fun r s' hr => by
        obtain ⟨k, rfl, hq⟩ := hr
        exact wpAny_pure ⟨_, rfl, hq⟩) fun _ _ e => e
  unfold richCompare
  simp only [oneThing_ref]
  refine wpAny_holding (wpAny_bind (wpAny_cRoomFor (Nat.lt_of_succ_lt hu) ?_))
  refine wpAny_bind (I.type.here (wpAny_bind (hb.here ?_)))
  have fin : wpAny (model prog w) A (tryCompare (.ref x) "__ne__" b) (fun r s' => ∃ v, r = some v ∧ Q v s') E s := one
  split
  · rename_i q
    have e : PySem.W.subIn K tb (.ref C) = some false := by
      rcases Bool.or_eq_true_iff.mp hn with e | e
      · rw [beq_iff_eq.mp e] at q; simp at q
      · exact beq_iff_eq.mp e
    refine wpAny_bind ((PySem.W.looks_subIn X e).here ?_)
    simp only [Bool.false_eq_true, if_false]
    refine wpAny_bind (wpAny_mono fin (fun r s' z => ?_) fun _ _ e => e)
    obtain ⟨v, rfl, hq⟩ := z
    exact wpAny_pure hq
  · refine wpAny_bind (wpAny_pure ?_)
    simp only [Bool.false_eq_true, if_false]
    refine wpAny_bind (wpAny_mono fin (fun r s' z => ?_) fun _ _ e => e)
    obtain ⟨v, rfl, hq⟩ := z
    exact wpAny_pure hq
end
/-- what the class says of its own == -/
structure OwnEqC (K : PySem.W.Frag) (C g : Addr) : Prop where
  eq : PySem.W.findIn K (.ref C) "__eq__" = some (some (.ref g))
  fn : PySem.W.isFn K (.ref g) = true
  ne : PySem.W.findIn K (.ref C) "__ne__" = some (some (.builtin "object.__ne__"))
  mo : PySem.W.mroIn K C (.type "object") = some true
section
variable {X : Cx} {k : Nat} {C g : Addr} {fd : FuncData} {ps : List Str} {sp : Sp}
/-- both are instances of the class at C, with an own == -/
def rOwnB (C : Addr) (sp : Sp) (g : Bool → Bool) : R2 := fun x y H Q => ∃ a dx fs b dy fs', x = .ref a ∧ y = .ref b ∧ H a = some (.ins C dx fs) ∧ H b = some (.ins C dy fs') ∧ sp [x, y] H (fun z H' => ∃ k, z = .bl k ∧ Q (.bl (g k)) H') E0
theorem notFirst_self {K : PySem.W.Frag} {C : Addr} : PySem.W.notFirst K C (.ref C) = true := by
  unfold PySem.W.notFirst
  simp
theorem ins_inst {pins : List (Addr × Obj)} {σ : L2.St} {H : Hp} {s : Shared} {a dx : Addr} {fs : List (Str × V)} (I : Inv X pins σ H s) (h : H a = some (.ins C dx fs)) : ∃ ox od, PySem.W.InstAt s.heap a ox C (some od) ∧ ox.data = .plain := by
  obtain ⟨mA, O, _, _, _, _⟩ := ins_get I.hok h
  obtain ⟨od, J, _⟩ := O.look
  exact ⟨_, od, J, rfl⟩
theorem op_ownEq (c : OwnEqC X.K C g) (F : FnOk X.prog X.w X.K X.mg X.base CX0 k g fd ps sp) (hr : Room k X.A) (hb : Binds X.K fd ps []) : OpR X (compareOp .Eq) (rOwnB C sp fun k => k) := by
  intro pins s σ H x y v u Q I rx ry h
  obtain ⟨a, dx, fs, b, dy, fs', rfl, rfl, ha, hb', q⟩ := h
  cases (show v = Value.ref a from rx)
  cases (show u = Value.ref b from ry)
  obtain ⟨ox, od, J, _⟩ := ins_inst I ha
  obtain ⟨oy, oe, J', _⟩ := ins_inst I hb'
  obtain ⟨m, hF⟩ := I.fr
  show wpAny _ _ (richCompare .Eq (.ref a) (.ref b)) _ _ _
  refine PySem.W.cmp_K (op := .Eq) (tb := .ref C) hr.units0 hF I.ok.mod.kin J J'.type notFirst_self c.eq c.fn ?_
  refine wpAny_mono (run_fn (us := [.ref a, .ref b]) (vs := [.ref a, .ref b]) F hr hb .nil pass0 I (.cons rfl (.cons rfl .nil)) q) (fun w s' z => ?_) fun _ _ x => x
  obtain ⟨z', H', I', rz, k, rfl, qz⟩ := z
  cases (show w = Value.bool k from rz)
  exact ⟨.bl k, H', I', rfl, qz⟩
theorem op_ownNe (c : OwnEqC X.K C g) (F : FnOk X.prog X.w X.K X.mg X.base CX0 k g fd ps sp) (hr : Room (k + 1) X.A) (hb : Binds X.K fd ps []) : OpR X (compareOp .NotEq) (rOwnB C sp fun k => !k) := by
  intro pins s σ H x y v u Q I rx ry h
  obtain ⟨a, dx, fs, b, dy, fs', rfl, rfl, ha, hb', q⟩ := h
  cases (show v = Value.ref a from rx)
  cases (show u = Value.ref b from ry)
  obtain ⟨ox, od, J, _⟩ := ins_inst I ha
  obtain ⟨oy, oe, J', _⟩ := ins_inst I hb'
  obtain ⟨m, hF⟩ := I.fr
  show wpAny _ _ (richCompare .NotEq (.ref a) (.ref b)) _ _ _
  refine ne_K (tb := .ref C) (by have := hr.units; omega) hF I.ok.mod.kin J J'.type notFirst_self c.ne c.eq c.fn c.mo ?_
  refine wpAny_call (codeAny_mono (F.run X.A.in1 X.stack s H ⟨[.ref a, .ref b], []⟩ [.ref a, .ref b] [.ref a, .ref b] _ E0 hr.in1 I.env0.in1 (hb _ [.ref a, .ref b] I.kIn (by rw [← F.len _ _ _ _ q] <;> rfl)) (.cons rfl (.cons rfl .nil)) q) fun r s' hq => ?_)
  cases r with
  | error er => exact False.elim hq
  | ok fl =>
    cases fl with
    | ret u =>
      obtain ⟨z', H', I', rz, k, rfl, qz⟩ := I.after hq
      cases (show u = Value.bool k from rz)
      exact ⟨k, rfl, .bl (!k), H', I', rfl, qz⟩
    | next => exact False.elim hq
    | brk => exact False.elim hq
    | cont => exact False.elim hq
/-- x in o, x not in o: o an instance of the class at C with an own __contains__ -/
structure OwnInC (K : PySem.W.Frag) (C g : Addr) : Prop where
  at_ : PySem.W.findIn K (.ref C) "__contains__" = some (some (.ref g))
  fn : PySem.W.isFn K (.ref g) = true
def rOwnIn (C : Addr) (sp : Sp) (g : Bool → Bool) : R2 := fun x y H Q => ∃ b dy fs, y = .ref b ∧ H b = some (.ins C dy fs) ∧ sp [y, x] H (fun z H' => ∃ k, z = .bl k ∧ Q (.bl (g k)) H') E0
theorem op_ownIn (c : OwnInC X.K C g) (F : FnOk X.prog X.w X.K X.mg X.base CX0 k g fd ps sp) (hr : Room k X.A) (hb : Binds X.K fd ps []) : OpR X (compareOp .In) (rOwnIn C sp fun k => k) := by
  intro pins s σ H x y v u Q I rx ry h
  obtain ⟨b, dy, fs, rfl, hb', q⟩ := h
  cases (show u = Value.ref b from ry)
  obtain ⟨oy, oe, J', _⟩ := ins_inst I hb'
  obtain ⟨m, hF⟩ := I.fr
  refine PySem.W.in_K hF I.ok.mod.kin J' c.at_ c.fn ?_
  refine wpAny_mono (run_fn (us := [.ref b, v]) (vs := [.ref b, x]) F hr hb .nil pass0 I (.cons rfl (.cons rx .nil)) q) (fun w s' z => ?_) fun _ _ x => x
  obtain ⟨z', H', I', rz, k, rfl, qz⟩ := z
  cases (show w = Value.bool k from rz)
  exact wpAny_truthy_bool ⟨.bl k, H', I', rfl, qz⟩
theorem op_ownNotIn (c : OwnInC X.K C g) (F : FnOk X.prog X.w X.K X.mg X.base CX0 k g fd ps sp) (hr : Room k X.A) (hb : Binds X.K fd ps []) : OpR X (compareOp .NotIn) (rOwnIn C sp fun k => !k) := by
  intro pins s σ H x y v u Q I rx ry h
  obtain ⟨b, dy, fs, rfl, hb', q⟩ := h
  cases (show u = Value.ref b from ry)
  obtain ⟨oy, oe, J', _⟩ := ins_inst I hb'
  obtain ⟨m, hF⟩ := I.fr
  refine PySem.W.notIn_K hF I.ok.mod.kin J' c.at_ c.fn ?_
  refine wpAny_mono (run_fn (us := [.ref b, v]) (vs := [.ref b, x]) F hr hb .nil pass0 I (.cons rfl (.cons rx .nil)) q) (fun w s' z => ?_) fun _ _ x => x
  obtain ⟨z', H', I', rz, k, rfl, qz⟩ := z
  cases (show w = Value.bool k from rz)
  exact wpAny_truthy_bool ⟨.bl (!k), H', I', rfl, qz⟩
end

/-! ### a + b: a an instance with an own __add__, b one of another class without -/
structure NoNum (K : PySem.W.Frag) (D : Addr) (nm : String) : Prop where
  cd : ∃ cd, PySem.W.clsIn K D = some cd ∧ cd.mro = [.ref D, .type "object"]
  f : PySem.W.findIn K (.ref D) (PySem.dunder nm) = some none
  r : PySem.W.findIn K (.ref D) (dunderR nm) = some none
section
variable {K : PySem.W.Frag} {D : Addr} {nm : String} {h : Heap} {M : Model}
theorem fills_no (X : K.In h) (c : NoNum K D nm) (f0 : typeLookup (.type "object") (PySem.dunder nm) = pure none) (r0 : typeLookup (.type "object") (dunderR nm) = pure none) : PySem.W.Looks M h (fillsNumberSlot (.ref D) nm) false := by
  intro A Q E s k q
  obtain ⟨cd, hcd, hm⟩ := c.cd
  unfold fillsNumberSlot
  refine wpAny_bind ((PySem.W.looks_clsIn X hcd).andThen (f := fun cd => pure cd.mro) .now A _ E s k ?_)
  rw [hm, List.anyM_cons]
  refine wpAny_bind ?_
  show wpAny M A (List.anyM _ [PySem.dunder nm, dunderR nm]) _ _ _
  rw [List.anyM_cons]
  refine wpAny_bind (wpAny_bind (PySem.W.looks_findIn X c.f A _ E s k ?_))
  dsimp only
  refine wpAny_pure ?_
  simp only [Bool.false_eq_true, if_false]
  rw [List.anyM_cons]
  refine wpAny_bind (wpAny_bind (PySem.W.looks_findIn X c.r A _ E s k ?_))
  dsimp only
  refine wpAny_pure ?_
  simp only [Bool.false_eq_true, if_false]
  rw [List.anyM_nil]
  refine wpAny_pure ?_
  simp only [Bool.false_eq_true, if_false]
  rw [List.anyM_cons]
  refine wpAny_bind ?_
  dsimp only
  rw [f0, r0]
  refine wpAny_bind (wpAny_bind (wpAny_pure (wpAny_bind (wpAny_pure (wpAny_pure ?_)))))
  refine wpAny_pure ?_
  simp only [Option.isSome_none, Bool.false_and, Bool.or_self, Bool.false_eq_true, if_false]
  rw [List.anyM_nil]
  exact wpAny_pure q
end
section
variable {prog : Program} {w : World} {A : Around} {E : Value → Shared → Prop} {s : Shared} {K : PySem.W.Frag} {x C D L f : Addr} {h₀ : Heap} {m : Str → Option Value} {ox : Obj} {od : Option Obj} {b : Value}
theorem binop_KD {op : Operator} {Q : Value → Shared → Prop} (FR : Fr h₀ L s.heap m) (X₀ : K.In h₀) (I : PySem.W.InstAt s.heap x ox C od) (hb : PySem.W.Looks (model prog w) s.heap (typeOf b) (.ref D)) (hc : PySem.W.selfFirst K C = true)
    (hs : PySem.W.findIn K (.ref C) (PySem.dunder op.info.2) = some (some (.ref f))) (hf : PySem.W.isFn K (.ref f) = true) (hd : NoNum K D op.info.2) (hne : D ≠ C)
    (f0 : typeLookup (.type "object") (PySem.dunder op.info.2) = pure none) (r0 : typeLookup (.type "object") (dunderR op.info.2) = pure none)
    (h : wpAny (model prog w) A (call (.ref f) [.ref x, b]) (PySem.W.CmpBack Q) E s) : wpAny (model prog w) A (binaryOp op (.ref x) b) Q E s := by
  have X := X₀.keeps FR.keep
  obtain ⟨cd, hcd, hm⟩ := PySem.W.any_some hc
  obtain ⟨rest, hm⟩ : ∃ rest, cd.mro = .ref C :: rest := by
    cases q : cd.mro with
    | nil => rw [q] at hm; cases hm
    | cons a r => rw [q] at hm; exact ⟨r, by rw [List.head?_cons] at hm; cases (beq_iff_eq.mp hm); rfl⟩
  have hcd2 : (Value.ref C == Value.ref D) = false := Bool.eq_false_iff.mpr fun q => hne (by cases beq_iff_eq.mp q; rfl)
  unfold binaryOp
  refine wpAny_holding (wpAny_bind ?_)
  unfold binaryOp1
  refine wpAny_bind (I.type.here (wpAny_bind (hb.here (wpAny_bind ((PySem.W.fills_K X hcd hm hs).here ?_)))))
  simp only [hcd2, Bool.false_eq_true, if_false]
  refine wpAny_bind ((fills_no X hd f0 r0).here ?_)
  simp only [Bool.and_false, Bool.false_eq_true, if_false, Bool.false_and]
  refine wpAny_bind (wpAny_pure ?_)
  simp only [Bool.false_eq_true, if_false, if_true]
  refine wpAny_bind (m := tryMethod (.ref x) _ b) ?_
  unfold tryMethod
  refine wpAny_bind (PySem.W.special_fn X I hs (beq_iff_eq.mp hf) (wpAny_mono h (fun v s' hv => ?_) fun _ _ e => e))
  cases v <;> first | exact hv.elim | exact wpAny_pure (wpAny_pure (wpAny_pure hv))
end
structure OwnAddC (K : PySem.W.Frag) (C g D : Addr) : Prop where
  at_ : PySem.W.findIn K (.ref C) "__add__" = some (some (.ref g))
  fn : PySem.W.isFn K (.ref g) = true
  self : PySem.W.selfFirst K C = true
  no : NoNum K D "add"
  ne : D ≠ C
section
variable {X : Cx} {k : Nat} {C D g : Addr} {fd : FuncData} {ps : List Str} {sp : Sp}
def rOwnAdd (C D : Addr) (sp : Sp) : R2 := fun x y H Q => ∃ a dx fs b dy fs', x = .ref a ∧ y = .ref b ∧ H a = some (.ins C dx fs) ∧ H b = some (.ins D dy fs') ∧ sp [x, y] H (fun z H' => (∃ p, z = .ref p) ∧ Q z H') E0
theorem op_ownAdd (c : OwnAddC X.K C g D) (F : FnOk X.prog X.w X.K X.mg X.base CX0 k g fd ps sp) (hr : Room k X.A) (hb : Binds X.K fd ps []) : OpR X (binaryOp .Add) (rOwnAdd C D sp) := by
  intro pins s σ H x y v u Q I rx ry h
  obtain ⟨a, dx, fs, b, dy, fs', rfl, rfl, ha, hb', q⟩ := h
  cases (show v = Value.ref a from rx)
  cases (show u = Value.ref b from ry)
  obtain ⟨ox, od, J, _⟩ := ins_inst I ha
  obtain ⟨oy, oe, J', _⟩ := ins_inst I hb'
  obtain ⟨m, hF⟩ := I.fr
  refine binop_KD (op := .Add) hF I.ok.mod.kin J J'.type c.self c.at_ c.fn c.no c.ne ?_ ?_ ?_
  · kernel_rfl
  · kernel_rfl
  refine wpAny_mono (run_fn (us := [.ref a, .ref b]) (vs := [.ref a, .ref b]) F hr hb .nil pass0 I (.cons rfl (.cons rfl .nil)) q) (fun w s' z => ?_) fun _ _ x => x
  obtain ⟨z', H', I', rz, ⟨p, rfl⟩, qz⟩ := z
  cases (show w = Value.ref p from rz)
  exact ⟨.ref p, H', I', rfl, qz⟩
end

/-! ### B.__init__(self, ..) in an own exception's __init__, B an own class over ValueError without an __init__ of its own -/
structure BaseIni (K : PySem.W.Frag) (B : Addr) (mc : Value) : Prop where
  rd : ClX.CRead K B mc
  at_ : PySem.W.findCls K (.ref B) mc "__init__" = some (.val (.builtin "ValueError.__init__"))
section
variable {X : Cx} {e : Expr} {es : List Expr} {ta : TA} {p1 p2 pos : Pos} {x : Str} {B : Addr} {mc : Value}
theorem pe_baseinit {pl : Sem Bool} (hg : Gl X x) (hm : X.mg x = some (.ref B)) (c : BaseIni X.K B mc) (ha : PA X (e :: es) ta)
    (hc : eval (.Call (.Attribute (.Name x p1) "__init__" p2) (e :: es) [] pos) X.env = (do
      let ov ← eval (.Name x p1) X.env
      standAt p2.atName
      let (f, first) ← holding [ov] (getMethod ov "__init__" pl)
      callWith pos f first (backTo pos (starEach (e :: es) X.env)) (backToKw pos (keywordEach [] X.env))) := by rfl)
    (he : starEach (e :: es) X.env = (false, eval e X.env) :: starEach es X.env := by rfl) (hpl : (backTo pos (starEach es X.env)).any (·.1) = false := by rfl) (hd : (x == ("__debug__" : Str)) = false := by decide) :
    PE X (.Call (.Attribute (.Name x p1) "__init__" p2) (e :: es) [] pos) (tVeI X.K ta) := by
  refine ⟨fun pins s σ H Q I h => ?_⟩
  refine PySem.W.methodCall_KW (ld_glob I hg hm ?_ hd) hc
  refine PySem.W.method_cls I.kIn c.rd.ga (PySem.W.cls_value I.kIn c.rd.rd c.at_ (by decide +kernel) ?_)
  show wpAny _ _ (callWith pos (Value.builtin "ValueError.__init__") [] (backTo pos (starEach (e :: es) X.env)) []) _ _ _
  refine PyProof.Rows.callWith_method1 (thn (ha.run pos pins _ σ H _ (I.tok _) h) fun us s1 ⟨vs, H1, I1, r1, a, C, ws, ev, hl, T, ea, q⟩ => ?_) he hpl
  subst ev
  cases r1 with
  | @cons _ u0 _ ur ra rw' =>
    obtain rfl : u0 = Value.ref a := ra
    have hlen : ur.length ≤ sizeLine := by
      rw [← Paired.length rw', sizeLine_eq]
      omega
    exact oinit_ok T I1 ea hlen fun s' J => ⟨.non, H1, J, rfl, q⟩
end
end U
/-! ## what the top has laid: facts and defs, read by one hook -/
namespace U
open PySem PySem.Spec PyProof.Rows L2
abbrev Fg := PySem.W.Frag
abbrev ga := He.ga
/-- a def, wherever it stands -/
structure DefP where
  ad : Fg → Addr
  name : Str
  qual : Str
  st : Stmt
  dfl : List He.Dv := []
  kwd : List (Str × He.Dv) := []
def fnAt (K : Fg) (a : Addr) : He.FnW := match K.lookup a with
  | some ⟨_, _, .func fd, _⟩ => some (fd.name, fd.qualname, fd.params, fd.body, fd.scope, fd.globals, fd.closure, fd.builtins)
  | _ => none
def DefP.val (d : DefP) : He.FnW := some (d.name, d.qual, defArgs d.st, .stmts (defBody d.st), defScope d.st, mainGlobals, [], builtinsNs)
def DefP.dvs (K : Fg) (d : DefP) : List V := d.dfl.map (He.Dv.v K)
def DefP.kws (K : Fg) (d : DefP) : List (Str × V) := d.kwd.map fun q => (q.1, q.2.v K)
def DefP.ok (K : Fg) (d : DefP) : Bool := PySem.W.keepIn K (.ref (d.ad K)) && (match K.lookup (d.ad K) with
  | some ⟨_, _, .func fd, _⟩ => PySem.W.codeIn K fd.code d.qual && (He.dflB K fd.defaults (d.dvs K) && He.kwdB K fd.kwdefaults (d.kws K))
  | _ => false)
abbrev Df (K : Fg) (d : DefP) (fd : FuncData) : Prop := FunD K d.name d.qual (defArgs d.st) (defBody d.st) (defScope d.st) (d.dvs K) (d.kws K) (d.ad K) fd
theorem DefP.df {K : Fg} {d : DefP} (e : fnAt K (d.ad K) = d.val) (c : d.ok K = true) : ∃ fd, Df K d fd := by
  obtain ⟨kp, c2⟩ := He.ba c
  unfold fnAt at e
  rcases q : K.lookup (d.ad K) with _ | ⟨oc, od, dt, osl⟩
  · rw [q] at c2
    cases c2
  · rw [q] at c2 e
    cases dt with
    | func fd =>
      obtain ⟨n1, n2, n3, n4, n5, n6, n7, n8, n9, n10, n11, n12, n13, n14, n15⟩ := fd
      have e2 : (some (n1, n2, n3, n4, n5, n6, n7, n15) : He.FnW) = some (d.name, d.qual, defArgs d.st, .stmts (defBody d.st), defScope d.st, mainGlobals, [], builtinsNs) := e
      simp only [Option.some.injEq, Prod.mk.injEq] at e2
      obtain ⟨h1, h2, h3, h4, h5, h6, h7, h8⟩ := e2
      subst h1 h2 h3 h4 h5 h6 h7 h8
      obtain ⟨k1, k2⟩ := He.ba (show (PySem.W.codeIn K n13 d.qual && (He.dflB K n8 (d.dvs K) && He.kwdB K n9 (d.kws K))) = true from c2)
      obtain ⟨k3, k4⟩ := He.ba k2
      exact ⟨_, ⟨oc, od, n8, n9, n10, n11, n12, n13, n14, osl, rfl, q, k1, He.dflB_ok k3, He.kwdB_ok k4⟩, kp⟩
    | _ => cases c2
/-! ### the hook -/
abbrev AlP : Type := Bool × List He.FnW
def obsP (fs : List (Fg → Bool)) (fn : List DefP) (K : Fg) : AlP := ((fs.all fun f => f K) && fn.all fun d => d.ok K, fn.map fun d => fnAt K (d.ad K))
def valP (fn : List DefP) : AlP := (true, fn.map DefP.val)
def SaysP (fs : List (Fg → Bool)) (fn : List DefP) (K : Fg) : Prop := obsP fs fn K = valP fn
def obsPG (n : Nat) (fs : List (Fg → Bool)) (fn : List DefP) (g : Addr → Option Obj) : AlP := obsP fs fn (He.frG g (List.range n))
def hookP (n : Nat) (fs : List (Fg → Bool)) (fn : List DefP) : PySem.W.Hook where
  α := AlP
  obs := fun s => obsPG n fs fn s.heap.get?
  val := fun _ => valP fn
  says := fun _ h => ∃ K : Fg, K.In h ∧ SaysP fs fn K
  of := fun _ _ e => ⟨_, He.frG_in, e⟩
  keeps := fun _ _ _ ⟨K, hK, c⟩ k => ⟨K, PySem.W.Frag.In.keeps hK k, c⟩
theorem obsPG_eq {n : Nat} {fs : List (Fg → Bool)} {fn : List DefP} {g : Addr → Option Obj} {s : Shared} (h : ∀ a, g a = s.heap.get? a) : obsPG n fs fn g = (hookP n fs fn).obs s := by
  have e : g = s.heap.get? := funext h
  rw [e] <;> rfl
section
variable {fs : List (Fg → Bool)} {fn : List DefP} {K : Fg}
theorem SaysP.fact (c : SaysP fs fn K) (i : Nat) {f : Fg → Bool} (h : fs[i]? = some f := by rfl) : f K = true := by
  have c1 := (He.ba (show ((fs.all fun f => f K) && fn.all fun d => d.ok K) = true from congrArg (fun z : AlP => z.1) c)).1
  exact List.all_eq_true.mp c1 f (List.mem_of_getElem? h)
theorem SaysP.def_ (c : SaysP fs fn K) (i : Nat) {d : DefP} (h : fn[i]? = some d := by rfl) : ∃ fd, Df K d fd := by
  have c2 := (He.ba (show ((fs.all fun f => f K) && fn.all fun d => d.ok K) = true from congrArg (fun z : AlP => z.1) c)).2
  have e : fn.map (fun d => fnAt K (d.ad K)) = fn.map DefP.val := congrArg (fun z : AlP => z.2) c
  have e2 : (fn.map fun d => fnAt K (d.ad K))[i]? = (fn.map DefP.val)[i]? := by rw [e]
  rw [List.getElem?_map, List.getElem?_map, h] at e2
  exact DefP.df (Option.some.inj e2) (List.all_eq_true.mp c2 d (List.mem_of_getElem? h))
end
/-! ### further facts as Bools -/
abbrev ca (C : Str) (m : Str) : Fg → Addr := fun K => He.ma K (ga K C) m
/-- the getter behind a property -/
def pa (C m : Str) : Fg → Addr := fun K => match PySem.W.recIn K (He.ma K (ga K C) m) "property" with
  | some (.ref g :: _) => g
  | _ => 0
def propB (C m : Str) : Fg → Bool := fun K => He.eqO (PySem.W.findIn K (.ref (ga K C)) m) (some (some (.ref (ca C m K)))) && (He.eqO (PySem.W.specialIn K (.ref (ca C m K)) "__get__") (some (some (.builtin "property.__get__"))) &&
  (decide (PySem.W.takesIn K (.ref (ca C m K)) = some true) && (match PySem.W.recIn K (ca C m K) "property" with
    | some (.ref _ :: _) => true
    | _ => false)))
theorem propB_ok {C m : Str} {K : Fg} (h : propB C m K = true) : PropOf K (ga K C) m (ca C m K) (pa C m K) := by
  obtain ⟨h1, h2⟩ := He.ba h
  obtain ⟨h3, h4⟩ := He.ba h2
  obtain ⟨h5, h6⟩ := He.ba h4
  refine ⟨He.eqO_ok h1, He.eqO_ok h3, of_decide_eq_true h5, ?_⟩
  rcases q : PySem.W.recIn K (ca C m K) "property" with _ | (_ | ⟨v, r⟩)
  · rw [q] at h6
    cases h6
  · rw [q] at h6
    cases h6
  · cases v with
    | ref g =>
      refine ⟨r, ?_⟩
      have e : pa C m K = g := by
        show (match PySem.W.recIn K (He.ma K (ga K C) m) "property" with | some (.ref g :: _) => g | _ => 0) = g
        rw [show PySem.W.recIn K (He.ma K (ga K C) m) "property" = some (.ref g :: r) from q]
      rw [e]
    | _ =>
      rw [q] at h6
      cases h6
def eqB (C : Str) : Fg → Bool := fun K => He.eqO (PySem.W.findIn K (.ref (ga K C)) "__eq__") (some (some (.ref (ca C "__eq__" K)))) && (PySem.W.isFn K (.ref (ca C "__eq__" K)) &&
  (He.eqO (PySem.W.findIn K (.ref (ga K C)) "__ne__") (some (some (.builtin "object.__ne__"))) && decide (PySem.W.mroIn K (ga K C) (.type "object") = some true)))
theorem eqB_ok {C : Str} {K : Fg} (h : eqB C K = true) : OwnEqC K (ga K C) (ca C "__eq__" K) := by
  obtain ⟨h1, h2⟩ := He.ba h
  obtain ⟨h3, h4⟩ := He.ba h2
  obtain ⟨h5, h6⟩ := He.ba h4
  exact ⟨He.eqO_ok h1, h3, He.eqO_ok h5, of_decide_eq_true h6⟩
def inB (C : Str) : Fg → Bool := fun K => He.eqO (PySem.W.findIn K (.ref (ga K C)) "__contains__") (some (some (.ref (ca C "__contains__" K)))) && PySem.W.isFn K (.ref (ca C "__contains__" K))
theorem inB_ok {C : Str} {K : Fg} (h : inB C K = true) : OwnInC K (ga K C) (ca C "__contains__" K) := by
  obtain ⟨h1, h2⟩ := He.ba h
  exact ⟨He.eqO_ok h1, h2⟩
def clsB (K : Fg) (D : Addr) : Bool := match PySem.W.clsIn K D with
  | some cd => decide (cd.mro = [.ref D, .type "object"])
  | none => false
def addB (C D : Str) : Fg → Bool := fun K => He.eqO (PySem.W.findIn K (.ref (ga K C)) "__add__") (some (some (.ref (ca C "__add__" K)))) && (PySem.W.isFn K (.ref (ca C "__add__" K)) && (PySem.W.selfFirst K (ga K C) &&
  ((clsB K (ga K D) && (He.eqO (PySem.W.findIn K (.ref (ga K D)) (PySem.dunder "add")) (some none) && He.eqO (PySem.W.findIn K (.ref (ga K D)) (dunderR "add")) (some none))) && decide (ga K D ≠ ga K C))))
theorem addB_ok {C D : Str} {K : Fg} (h : addB C D K = true) : OwnAddC K (ga K C) (ca C "__add__" K) (ga K D) := by
  obtain ⟨h1, h2⟩ := He.ba h
  obtain ⟨h3, h4⟩ := He.ba h2
  obtain ⟨h5, h6⟩ := He.ba h4
  obtain ⟨h7, h8⟩ := He.ba h6
  obtain ⟨h9, h10⟩ := He.ba h7
  obtain ⟨h11, h12⟩ := He.ba h10
  refine ⟨He.eqO_ok h1, h3, h5, ⟨?_, He.eqO_ok h11, He.eqO_ok h12⟩, of_decide_eq_true h8⟩
  unfold clsB at h9
  cases q : PySem.W.clsIn K (ga K D) with
  | none =>
    rw [q] at h9
    cases h9
  | some cd =>
    rw [q] at h9
    exact ⟨cd, rfl, of_decide_eq_true h9⟩
/-- a class whose instances look nothing up under these names -/
def noatB (C : Str) (fs : List Str) : Fg → Bool := fun K => fs.all fun f => He.eqO (PySem.W.findIn K (.ref (ga K C)) f) (some none)
theorem noatB_ok {C : Str} {fs : List Str} {K : Fg} (h : noatB C fs K = true) {f : Str} (hf : f ∈ fs) : NoAttr K (ga K C) f := He.eqO_ok (List.all_eq_true.mp h f hf)
def typeB (x : Str) (T : String) : Fg → Bool := fun K => decide (PySem.W.typeIn K (.ref (ga K x)) = some (.type T))
/-- a constant of a class, read by the class -/
def cvalB (C f : Str) (v : He.Dv) : Fg → Bool := fun K => PySem.W.readsIn K (ga K C) (.type "type") && (He.eqO (PySem.W.specialIn K (.ref (ga K C)) "__getattribute__") (some (some (.builtin "type.__getattribute__"))) &&
  (match PySem.W.findCls K (.ref (ga K C)) (.type "type") f with
    | some (.val u) => He.relB (v.v K) u
    | _ => false))
theorem cvalB_ok {C f : Str} {v : He.Dv} {K : Fg} (h : cvalB C f v K = true) : ClX.CRead K (ga K C) (.type "type") ∧ ∃ u, ClX.CVal K (ga K C) (.type "type") f (v.v K) u := by
  obtain ⟨h1, h2⟩ := He.ba h
  obtain ⟨h3, h4⟩ := He.ba h2
  refine ⟨⟨h1, He.eqO_ok h3⟩, ?_⟩
  rcases q : PySem.W.findCls K (.ref (ga K C)) (.type "type") f with _ | a
  · rw [q] at h4
    cases h4
  · rw [q] at h4
    cases a with
    | val u => exact ⟨u, ⟨q, He.relB_ok h4⟩⟩
    | _ => cases h4
/-- an own exception over ValueError with an own __init__ -/
def oexB (x : Str) : Fg → Bool := fun K => (match K.lookup (ga K x) with
  | some ⟨.type "type", _, .cls cd, sl⟩ => (match cd.mro, sl.toList with
    | .ref C :: bm, [_, _, _, _, some (.builtin n), _] => (decide (C = ga K x) && decide (n = "ValueError.__new__")) && (PySem.HandSPX.refsVE bm && (cd.hasDict && !cd.hasDel))
    | _, _ => false)
  | _ => false) && (He.eqO (PySem.W.findIn K (.ref (ga K x)) "__setattr__") (some (some (.builtin "object.__setattr__"))) && (decide (PySem.W.subIn K (.ref (ga K x)) (.type "BaseException") = some true) &&
  (decide (PySem.W.typeIn K (.ref (ga K x)) = some (.type "type")) && PySem.W.keepIn K (.ref (ga K x)))))
theorem oexB_ok {x : Str} {K : Fg} (h : oexB x K = true) : OexC K (ga K x) := by
  obtain ⟨h1, h2⟩ := He.ba h
  obtain ⟨h3, h4⟩ := He.ba h2
  obtain ⟨h5, h6⟩ := He.ba h4
  obtain ⟨h7, h8⟩ := He.ba h6
  refine ⟨?_, He.eqO_ok h3, of_decide_eq_true h5, of_decide_eq_true h7, h8⟩
  split at h1
  · rename_i dd cd sl ho
    split at h1
    · rename_i C bm k0 k1 k2 k3 n k5 hm hs
      obtain ⟨h9, h10⟩ := He.ba h1
      obtain ⟨h11, h12⟩ := He.ba h9
      obtain ⟨h13, h14⟩ := He.ba h10
      obtain ⟨h15, h16⟩ := He.ba h14
      have eC := of_decide_eq_true h11
      have en := of_decide_eq_true h12
      obtain ⟨nm, bs, mro, ns, qn, hd, sn, sub, ab, col, del⟩ := cd
      dsimp only at hm h15 h16
      have ed : del = false := by
        cases del
        · rfl
        · cases h16
      subst hm h15 ed en
      have hsl : sl = #[k0, k1, k2, k3, some (.builtin "ValueError.__new__"), k5] := by
        obtain ⟨l⟩ := sl
        simp only at hs
        rw [hs]
      subst hsl
      rw [eC] at ho
      exact ⟨nm, qn, ns, bs, bm, sn, sub, ab, col, dd, k0, k1, k2, k3, k5, ho, h13⟩
    · cases h1
  · cases h1
def iniB (x : Str) : Fg → Bool := fun K => He.eqO (PySem.W.findIn K (.ref (ga K x)) "__init__") (some (some (.ref (ca x "__init__" K)))) && decide (PySem.W.typeIn K (.ref (ca x "__init__" K)) = some (.type "function"))
theorem iniB_ok {x : Str} {K : Fg} (h : iniB x K = true) : PySem.W.findIn K (.ref (ga K x)) "__init__" = some (some (.ref (ca x "__init__" K))) ∧ PySem.W.typeIn K (.ref (ca x "__init__" K)) = some (.type "function") := by
  obtain ⟨h1, h2⟩ := He.ba h
  exact ⟨He.eqO_ok h1, of_decide_eq_true h2⟩
/-- B.__init__ of an own base without one is ValueError's -/
def bseB (x : Str) : Fg → Bool := fun K => PySem.W.readsIn K (ga K x) (.type "type") && (He.eqO (PySem.W.specialIn K (.ref (ga K x)) "__getattribute__") (some (some (.builtin "type.__getattribute__"))) &&
  (match PySem.W.findCls K (.ref (ga K x)) (.type "type") "__init__" with
    | some (.val (.builtin n)) => decide (n = "ValueError.__init__")
    | _ => false))
theorem bseB_ok {x : Str} {K : Fg} (h : bseB x K = true) : BaseIni K (ga K x) (.type "type") := by
  obtain ⟨h1, h2⟩ := He.ba h
  obtain ⟨h3, h4⟩ := He.ba h2
  refine ⟨⟨h1, He.eqO_ok h3⟩, ?_⟩
  split at h4
  · rename_i n q
    rw [q, of_decide_eq_true h4]
  · cases h4
/-- what type() of an instance leans on -/
structure TyC (K : Fg) (C : Addr) : Prop where
  at_ : PySem.W.findIn K (.ref C) "__class__" = some (some (.builtin "object.__class__"))
  get : PySem.W.specialIn K (.builtin "object.__class__") "__get__" = some (some (.builtin "getset_descriptor.__get__"))
  tak : PySem.W.takesIn K (.builtin "object.__class__") = some true
  mro : PySem.W.mroIn K C (.type "object") = some true
def tycB (C : Str) : Fg → Bool := fun K => He.eqO (PySem.W.findIn K (.ref (ga K C)) "__class__") (some (some (.builtin "object.__class__"))) && (He.eqO (PySem.W.specialIn K (.builtin "object.__class__") "__get__") (some (some (.builtin "getset_descriptor.__get__"))) &&
  (decide (PySem.W.takesIn K (.builtin "object.__class__") = some true) && decide (PySem.W.mroIn K (ga K C) (.type "object") = some true)))
theorem tycB_ok {C : Str} {K : Fg} (h : tycB C K = true) : TyC K (ga K C) := by
  obtain ⟨h1, h2⟩ := He.ba h
  obtain ⟨h3, h4⟩ := He.ba h2
  obtain ⟨h5, h6⟩ := He.ba h4
  exact ⟨He.eqO_ok h1, He.eqO_ok h3, of_decide_eq_true h5, of_decide_eq_true h6⟩
theorem TyC.of {K : Fg} {C : Addr} (t : TyC K C) (c : Cls K C) {H : Hp} {a dx : Addr} {fs : List (Str × V)} (h : H a = some (.ins C dx fs)) : TyX K H (.ref a) (.ref C) := .base (.ins h c t.at_ t.get t.tak t.mro)
end U
/-! ## the facts of the top that the proof leans on (written by mkfacts.py) -/
namespace U
open PySem PySem.Spec PyProof.Rows L2
def top (i : Nat) : Stmt := PySem.Challenge.pw_unlikecalls_k90_texts_and_wrong_lines.main.body.getD i (.Pass ⟨0, 0, 0, 0⟩)
def sub (s : Stmt) (j : Nat) : Stmt := match s with
  | .ClassDef _ _ _ b _ _ _ _ _ _ _ => b.getD j (.Pass ⟨0, 0, 0, 0⟩)
  | _ => .Pass ⟨0, 0, 0, 0⟩
/-- the tuple at a value, if it is one that the top has laid -/
def tupAt (K : Fg) (v : Value) : Option (List Value) := match v with
  | .ref p => (match K.lookup p with
    | some ⟨.type c, _, .seq its _, _⟩ => if c = "tuple" ∧ its.size ≤ sizeLine then some its.toList else none
    | _ => none)
  | _ => none
theorem tupAt_ok {K : Fg} {v : Value} {l : List Value} (h : tupAt K v = some l) : ∃ p, v = .ref p ∧ ∀ (H : Hp) (xs : List V), Vals xs l → SqT K H p xs := by
  unfold tupAt at h
  split at h
  · rename_i p
    split at h
    · rename_i c dd its n sl q
      split at h
      · rename_i hc
        obtain ⟨rfl, hz⟩ := hc
        cases h
        exact ⟨p, rfl, fun H xs r => .inr ⟨_, its, n, q, rfl, rfl, hz, r⟩⟩
      · cases h
    · cases h
  · cases h
abbrev ChoO := List (Str × List (Str × V))
def choices : ChoO := [("together", [("yes", .bl true), ("no", .bl false)]), ("doubles", [("whole", .str "whole"), ("even", .str "even"), ("split", .str "split")]), ("again", [("yes", .bl true), ("no", .bl false)]),
  ("slot", [("4", .int 4), ("8", .int 8)]), ("natural", [("yes", .bl true), ("no", .bl false)]), ("home", [("0", .int 0), ("16", .int 16), ("32", .int 32)]), ("tail", [("same", .str "same"), ("slots", .str "slots")])]
def all2 {α β : Type} (f : α → β → Bool) : List α → List β → Bool
  | [], [] => true
  | a :: r, b :: s => f a b && all2 f r s
  | _, _ => false
theorem all2_ok {α β γ : Type} {f : α → β → Bool} {R : γ → β → Prop} {g : γ → α} (hf : ∀ a b, f a b = true → ∃ c, g c = a ∧ R c b) : ∀ {l : List α} {m : List β}, all2 f l m = true → ∃ cs : List γ, cs.map g = l ∧ Paired R cs m
  | [], [], _ => ⟨[], rfl, .nil⟩
  | [], _ :: _, h => by cases h
  | _ :: _, [], h => by cases h
  | a :: r, b :: s, h => by
    obtain ⟨h1, h2⟩ := He.ba (show (f a b && all2 f r s) = true from h)
    obtain ⟨c, e, hc⟩ := hf a b h1
    obtain ⟨cs, es, hr⟩ := all2_ok hf h2
    exact ⟨c :: cs, by rw [List.map_cons, e, es], .cons hc hr⟩
def pairB (K : Fg) (v : Value) (c : Str × V) : Bool := match tupAt K v with
  | some [.str t _, u] => decide (t = c.1) && He.relB c.2 u
  | _ => false
def rowB (K : Fg) (v : Value) (c : Str × List (Str × V)) : Bool := match tupAt K v with
  | some [.str t _, u] => decide (t = c.1) && (match tupAt K u with
    | some l => all2 (pairB K) l c.2
    | _ => false)
  | _ => false
def choB (K : Fg) : Bool := match tupAt K (.ref (ga K "CHOICES")) with
  | some l => all2 (rowB K) l choices
  | _ => false
abbrev PairT (K : Fg) (p : Addr) (c : Str × V) : Prop := ∀ H, SqT K H p [.str c.1, c.2]
abbrev RowT (K : Fg) (p : Addr) (c : Str × List (Str × V)) : Prop := ∃ q qs, (∀ H, SqT K H p [.str c.1, .ref q]) ∧ (∀ H, SqT K H q (qs.map V.ref)) ∧ Paired (PairT K) qs c.2
abbrev ChoT (K : Fg) : Prop := ∃ ps : List Addr, (∀ H, SqT K H (ga K "CHOICES") (ps.map V.ref)) ∧ Paired (RowT K) ps choices
theorem vals_refs : ∀ (ps : List Addr), Vals (ps.map V.ref) (ps.map Value.ref)
  | [] => .nil
  | _ :: r => .cons rfl (vals_refs r)
theorem pairB_ok {K : Fg} (v : Value) (c : Str × V) (h : pairB K v c = true) : ∃ p, Value.ref p = v ∧ PairT K p c := by
  unfold pairB at h
  split at h
  · rename_i t tk u q
    obtain ⟨h1, h2⟩ := He.ba h
    obtain ⟨p, rfl, k⟩ := tupAt_ok q
    refine ⟨p, rfl, fun H => k H _ (.cons ⟨tk, ?_⟩ (.cons (He.relB_ok h2) .nil))⟩
    rw [of_decide_eq_true h1]
  · cases h
theorem rowB_ok {K : Fg} (v : Value) (c : Str × List (Str × V)) (h : rowB K v c = true) : ∃ p, Value.ref p = v ∧ RowT K p c := by
  unfold rowB at h
  split at h
  · rename_i t tk u q
    obtain ⟨h1, h2⟩ := He.ba h
    obtain ⟨p, rfl, k⟩ := tupAt_ok q
    split at h2
    · rename_i l q2
      obtain ⟨p2, rfl, k2⟩ := tupAt_ok q2
      obtain ⟨qs, rfl, hp⟩ := all2_ok (g := Value.ref) (pairB_ok (K := K)) h2
      refine ⟨p, rfl, p2, qs, fun H => k H _ (.cons ⟨tk, ?_⟩ (.cons rfl .nil)), fun H => k2 H _ (vals_refs qs), hp⟩
      rw [of_decide_eq_true h1]
    · cases h2
  · cases h
theorem choB_ok {K : Fg} (h : choB K = true) : ChoT K := by
  unfold choB at h
  split at h
  · rename_i l q
    obtain ⟨p, e, k⟩ := tupAt_ok q
    cases e
    obtain ⟨ps, rfl, hp⟩ := all2_ok (g := Value.ref) (rowB_ok (K := K)) h
    exact ⟨ps, fun H => k H _ (vals_refs ps), hp⟩
  · cases h

/-- what an own exception class says of its instances -/
def excB (x : Str) (K : Fg) : Bool := decide (PySem.W.findIn K (.ref (ga K x)) "__getattribute__" = some (some (.builtin "BaseException.__getattribute__"))) && (decide (PySem.W.findIn K (.ref (ga K x)) "__getattr__" = some none) && (decide (PySem.W.subIn K (.ref (ga K x)) (.type "BaseException") = some true) && (PySem.W.hasDictIn K (ga K x) && (decide (PySem.W.findIn K (.ref (ga K x)) "__class__" = some (some (.builtin "object.__class__"))) &&
  (decide (PySem.W.specialIn K (.builtin "object.__class__") "__get__" = some (some (.builtin "getset_descriptor.__get__"))) && (decide (PySem.W.takesIn K (.builtin "object.__class__") = some true) && decide (PySem.W.mroIn K (ga K x) (.type "object") = some true)))))))
theorem excB_ok {x : Str} {K : Fg} (h : excB x K = true) : ExcC K (ga K x) := by
  unfold excB at h
  simp only [Bool.and_eq_true, decide_eq_true_eq] at h
  obtain ⟨h1, h2, h3, h4, h5, h6, h7, h8⟩ := h
  exact ⟨h1, h2, h3, h4, h5, h6, h7, h8⟩

abbrev s_is_integer : Stmt := top 5
def d_is_integer : DefP := ⟨fun K => ga K "is_integer", "is_integer", "is_integer", s_is_integer, [], []⟩
abbrev s_is_count : Stmt := top 6
def d_is_count : DefP := ⟨fun K => ga K "is_count", "is_count", "is_count", s_is_count, [], []⟩
abbrev s_is_count_from : Stmt := top 7
def d_is_count_from : DefP := ⟨fun K => ga K "is_count_from", "is_count_from", "is_count_from", s_is_count_from, [], []⟩
abbrev s_is_name : Stmt := top 8
def d_is_name : DefP := ⟨fun K => ga K "is_name", "is_name", "is_name", s_is_name, [], []⟩
abbrev s_is_decimal : Stmt := top 9
def d_is_decimal : DefP := ⟨fun K => ga K "is_decimal", "is_decimal", "is_decimal", s_is_decimal, [], []⟩
abbrev s_is_extent_word : Stmt := top 39
def d_is_extent_word : DefP := ⟨fun K => ga K "is_extent_word", "is_extent_word", "is_extent_word", s_is_extent_word, [], []⟩
abbrev s_is_group_kinds : Stmt := top 47
def d_is_group_kinds : DefP := ⟨fun K => ga K "is_group_kinds", "is_group", "is_group", s_is_group_kinds, [], []⟩
abbrev s_is_size : Stmt := top 49
def d_is_size : DefP := ⟨fun K => ga K "is_size", "is_size", "is_size", s_is_size, [], []⟩
abbrev s_is_width : Stmt := top 50
def d_is_width : DefP := ⟨fun K => ga K "is_width", "is_width", "is_width", s_is_width, [], []⟩
abbrev s_want_book : Stmt := top 53
def d_want_book : DefP := ⟨fun K => ga K "want_book", "want_book", "want_book", s_want_book, [], []⟩
abbrev s_is_fills : Stmt := top 81
def d_is_fills : DefP := ⟨fun K => ga K "is_fills", "is_fills", "is_fills", s_is_fills, [], []⟩
abbrev s_is_option : Stmt := top 82
def d_is_option : DefP := ⟨fun K => ga K "is_option", "is_option", "is_option", s_is_option, [], []⟩
abbrev s_all_fills : Stmt := top 83
def d_all_fills : DefP := ⟨fun K => ga K "all_fills", "all_fills", "all_fills", s_all_fills, [], []⟩
abbrev s_want_convention : Stmt := top 86
def d_want_convention : DefP := ⟨fun K => ga K "want_convention", "want_convention", "want_convention", s_want_convention, [], []⟩
abbrev s_yes_or_no : Stmt := top 96
def d_yes_or_no : DefP := ⟨fun K => ga K "yes_or_no", "yes_or_no", "yes_or_no", s_yes_or_no, [], []⟩
abbrev s_kind_line : Stmt := top 97
def d_kind_line : DefP := ⟨fun K => ga K "kind_line", "kind_line", "kind_line", s_kind_line, [], []⟩
abbrev s_fill_lines : Stmt := top 98
def d_fill_lines : DefP := ⟨fun K => ga K "fill_lines", "fill_lines", "fill_lines", s_fill_lines, [], []⟩
abbrev s_text_of : Stmt := top 99
def d_text_of : DefP := ⟨fun K => ga K "text_of", "text_of", "text_of", s_text_of, [], []⟩
abbrev s_number_in : Stmt := top 100
def d_number_in : DefP := ⟨fun K => ga K "number_in", "number_in", "number_in", s_number_in, [], []⟩
abbrev s_kind_in : Stmt := top 101
def d_kind_in : DefP := ⟨fun K => ga K "kind_in", "kind_in", "kind_in", s_kind_in, [], []⟩
abbrev s_read_convention : Stmt := top 103
def d_read_convention : DefP := ⟨fun K => ga K "read_convention", "read_convention", "read_convention", s_read_convention, [], []⟩
abbrev s__law_pot : Stmt := top 105
def d__law_pot : DefP := ⟨fun K => ga K "_law_pot", "_law_pot", "_law_pot", s__law_pot, [], []⟩
abbrev s__law_draw : Stmt := top 106
def d__law_draw : DefP := ⟨fun K => ga K "_law_draw", "_law_draw", "_law_draw", s__law_draw, [], []⟩
abbrev s__law_pick : Stmt := top 107
def d__law_pick : DefP := ⟨fun K => ga K "_law_pick", "_law_pick", "_law_pick", s__law_pick, [], []⟩
abbrev s__law_named : Stmt := top 108
def d__law_named : DefP := ⟨fun K => ga K "_law_named", "_law_named", "_law_named", s__law_named, [], []⟩
abbrev s__law_kinds : Stmt := top 109
def d__law_kinds : DefP := ⟨fun K => ga K "_law_kinds", "_law_kinds", "_law_kinds", s__law_kinds, [], []⟩
abbrev s__law_book : Stmt := top 110
def d__law_book : DefP := ⟨fun K => ga K "_law_book", "_law_book", "_law_book", s__law_book, [], []⟩
abbrev s__law_plan : Stmt := top 111
def d__law_plan : DefP := ⟨fun K => ga K "_law_plan", "_law_plan", "_law_plan", s__law_plan, [], []⟩
abbrev s__law_convention : Stmt := top 112
def d__law_convention : DefP := ⟨fun K => ga K "_law_convention", "_law_convention", "_law_convention", s__law_convention, [], []⟩
abbrev s__law_yes : Stmt := top 113
def d__law_yes : DefP := ⟨fun K => ga K "_law_yes", "_law_yes", "_law_yes", s__law_yes, [], []⟩
abbrev s__law_lines : Stmt := top 114
def d__law_lines : DefP := ⟨fun K => ga K "_law_lines", "_law_lines", "_law_lines", s__law_lines, [], []⟩
abbrev s__law_count : Stmt := top 115
def d__law_count : DefP := ⟨fun K => ga K "_law_count", "_law_count", "_law_count", s__law_count, [], []⟩
abbrev s__law_is_kind : Stmt := top 116
def d__law_is_kind : DefP := ⟨fun K => ga K "_law_is_kind", "_law_is_kind", "_law_is_kind", s__law_is_kind, [], []⟩
abbrev s__law_options : Stmt := top 117
def d__law_options : DefP := ⟨fun K => ga K "_law_options", "_law_options", "_law_options", s__law_options, [], []⟩
abbrev s__law_wrong : Stmt := top 118
def d__law_wrong : DefP := ⟨fun K => ga K "_law_wrong", "_law_wrong", "_law_wrong", s__law_wrong, [], []⟩
abbrev s__law_other_row : Stmt := top 119
def d__law_other_row : DefP := ⟨fun K => ga K "_law_other_row", "_law_other_row", "_law_other_row", s__law_other_row, [], []⟩
abbrev s__law_spoilt : Stmt := top 120
def d__law_spoilt : DefP := ⟨fun K => ga K "_law_spoilt", "_law_spoilt", "_law_spoilt", s__law_spoilt, [], []⟩
abbrev s__law_told : Stmt := top 121
def d__law_told : DefP := ⟨fun K => ga K "_law_told", "_law_told", "_law_told", s__law_told, [], []⟩
abbrev s__law_is_told : Stmt := top 122
def d__law_is_told : DefP := ⟨fun K => ga K "_law_is_told", "_law_is_told", "_law_is_told", s__law_is_told, [], []⟩
abbrev s__law_right : Stmt := top 123
def d__law_right : DefP := ⟨fun K => ga K "_law_right", "_law_right", "_law_right", s__law_right, [], []⟩
abbrev s_law : Stmt := top 124
def d_law : DefP := ⟨fun K => ga K "law", "law", "law", s_law, [], []⟩
abbrev s_Fill___init__ : Stmt := sub (top 40) 0
def d_Fill___init__ : DefP := ⟨ca "Fill" "__init__", "__init__", "Fill.__init__", s_Fill___init__, [.str "free", .non], []⟩
abbrev s_Fill___eq__ : Stmt := sub (top 40) 6
def d_Fill___eq__ : DefP := ⟨ca "Fill" "__eq__", "__eq__", "Fill.__eq__", s_Fill___eq__, [], []⟩
abbrev s_Kind___init__ : Stmt := sub (top 51) 0
def d_Kind___init__ : DefP := ⟨ca "Kind" "__init__", "__init__", "Kind.__init__", s_Kind___init__, [.str "whole"], [("size", .int 8), ("width", .non), ("align", .non)]⟩
abbrev s_Kind_parts : Stmt := sub (top 51) 8
def d_Kind_parts : DefP := ⟨ca "Kind" "parts", "parts", "Kind.parts", s_Kind_parts, [], []⟩
abbrev s_Book___init__ : Stmt := sub (top 52) 1
def d_Book___init__ : DefP := ⟨ca "Book" "__init__", "__init__", "Book.__init__", s_Book___init__, [], []⟩
abbrev s_Book_kinds : Stmt := sub (top 52) 2
def d_Book_kinds : DefP := ⟨ca "Book" "kinds", "kinds", "Book.kinds", s_Book_kinds, [], []⟩
abbrev s_Book_names : Stmt := sub (top 52) 3
def d_Book_names : DefP := ⟨ca "Book" "names", "names", "Book.names", s_Book_names, [], []⟩
abbrev s_Book___contains__ : Stmt := sub (top 52) 7
def d_Book___contains__ : DefP := ⟨ca "Book" "__contains__", "__contains__", "Book.__contains__", s_Book___contains__, [], []⟩
abbrev s_Book___add__ : Stmt := sub (top 52) 8
def d_Book___add__ : DefP := ⟨ca "Book" "__add__", "__add__", "Book.__add__", s_Book___add__, [], []⟩
abbrev s_Book___eq__ : Stmt := sub (top 52) 9
def d_Book___eq__ : DefP := ⟨ca "Book" "__eq__", "__eq__", "Book.__eq__", s_Book___eq__, [], []⟩
abbrev s_Convention___init__ : Stmt := sub (top 85) 0
def d_Convention___init__ : DefP := ⟨ca "Convention" "__init__", "__init__", "Convention.__init__", s_Convention___init__, [], [("wholes", .int 0), ("floats", .int 0), ("together", .bl false), ("doubles", .str "whole"), ("again", .bl false), ("slot", .int 8), ("natural", .bl true), ("home", .int 0), ("tail", .str "same"), ("fills", .non)]⟩
abbrev s_Convention_fill : Stmt := sub (top 85) 11
def d_Convention_fill : DefP := ⟨ca "Convention" "fill", "fill", "Convention.fill", s_Convention_fill, [], []⟩
abbrev s_Convention_changed : Stmt := sub (top 85) 12
def d_Convention_changed : DefP := ⟨ca "Convention" "changed", "changed", "Convention.changed", s_Convention_changed, [], []⟩
abbrev s_Convention___eq__ : Stmt := sub (top 85) 13
def d_Convention___eq__ : DefP := ⟨ca "Convention" "__eq__", "__eq__", "Convention.__eq__", s_Convention___eq__, [], []⟩
abbrev s_Reading___init__ : Stmt := sub (top 102) 0
def d_Reading___init__ : DefP := ⟨ca "Reading" "__init__", "__init__", "Reading.__init__", s_Reading___init__, [], []⟩
abbrev s_Reading_take : Stmt := sub (top 102) 1
def d_Reading_take : DefP := ⟨ca "Reading" "take", "take", "Reading.take", s_Reading_take, [], []⟩
abbrev s_Reading_is_done : Stmt := sub (top 102) 2
def d_Reading_is_done : DefP := ⟨ca "Reading" "is_done", "is_done", "Reading.is_done", s_Reading_is_done, [], []⟩
abbrev s_Reading_take_kind : Stmt := sub (top 102) 3
def d_Reading_take_kind : DefP := ⟨ca "Reading" "take_kind", "take_kind", "Reading.take_kind", s_Reading_take_kind, [], []⟩
abbrev s_Reading_take_registers : Stmt := sub (top 102) 4
def d_Reading_take_registers : DefP := ⟨ca "Reading" "take_registers", "take_registers", "Reading.take_registers", s_Reading_take_registers, [], []⟩
abbrev s_Reading_take_choice : Stmt := sub (top 102) 5
def d_Reading_take_choice : DefP := ⟨ca "Reading" "take_choice", "take_choice", "Reading.take_choice", s_Reading_take_choice, [], []⟩
abbrev s_Reading_take_fill : Stmt := sub (top 102) 6
def d_Reading_take_fill : DefP := ⟨ca "Reading" "take_fill", "take_fill", "Reading.take_fill", s_Reading_take_fill, [], []⟩
abbrev s_Reading_made_convention : Stmt := sub (top 102) 7
def d_Reading_made_convention : DefP := ⟨ca "Reading" "made_convention", "made_convention", "Reading.made_convention", s_Reading_made_convention, [], []⟩
abbrev s_InvalidText___init__ : Stmt := sub (top 24) 0
def d_InvalidText___init__ : DefP := ⟨ca "InvalidText" "__init__", "__init__", "InvalidText.__init__", s_InvalidText___init__, [], []⟩
abbrev s_Fill_word : Stmt := sub (top 40) 2
def d_Fill_word : DefP := ⟨pa "Fill" "word", "word", "Fill.word", s_Fill_word, [], []⟩
abbrev s_Fill_extent : Stmt := sub (top 40) 3
def d_Fill_extent : DefP := ⟨pa "Fill" "extent", "extent", "Fill.extent", s_Fill_extent, [], []⟩
abbrev s_Kind_name : Stmt := sub (top 51) 1
def d_Kind_name : DefP := ⟨pa "Kind" "name", "name", "Kind.name", s_Kind_name, [], []⟩
abbrev s_Kind_group : Stmt := sub (top 51) 2
def d_Kind_group : DefP := ⟨pa "Kind" "group", "group", "Kind.group", s_Kind_group, [], []⟩
abbrev s_Kind_size : Stmt := sub (top 51) 3
def d_Kind_size : DefP := ⟨pa "Kind" "size", "size", "Kind.size", s_Kind_size, [], []⟩
abbrev s_Kind_width : Stmt := sub (top 51) 4
def d_Kind_width : DefP := ⟨pa "Kind" "width", "width", "Kind.width", s_Kind_width, [], []⟩
abbrev s_Kind_align : Stmt := sub (top 51) 5
def d_Kind_align : DefP := ⟨pa "Kind" "align", "align", "Kind.align", s_Kind_align, [], []⟩
abbrev s_Convention_book : Stmt := sub (top 85) 1
def d_Convention_book : DefP := ⟨pa "Convention" "book", "book", "Convention.book", s_Convention_book, [], []⟩
abbrev s_Convention_wholes : Stmt := sub (top 85) 2
def d_Convention_wholes : DefP := ⟨pa "Convention" "wholes", "wholes", "Convention.wholes", s_Convention_wholes, [], []⟩
abbrev s_Convention_floats : Stmt := sub (top 85) 3
def d_Convention_floats : DefP := ⟨pa "Convention" "floats", "floats", "Convention.floats", s_Convention_floats, [], []⟩
abbrev s_Convention_together : Stmt := sub (top 85) 4
def d_Convention_together : DefP := ⟨pa "Convention" "together", "together", "Convention.together", s_Convention_together, [], []⟩
abbrev s_Convention_doubles : Stmt := sub (top 85) 5
def d_Convention_doubles : DefP := ⟨pa "Convention" "doubles", "doubles", "Convention.doubles", s_Convention_doubles, [], []⟩
abbrev s_Convention_again : Stmt := sub (top 85) 6
def d_Convention_again : DefP := ⟨pa "Convention" "again", "again", "Convention.again", s_Convention_again, [], []⟩
abbrev s_Convention_slot : Stmt := sub (top 85) 7
def d_Convention_slot : DefP := ⟨pa "Convention" "slot", "slot", "Convention.slot", s_Convention_slot, [], []⟩
abbrev s_Convention_natural : Stmt := sub (top 85) 8
def d_Convention_natural : DefP := ⟨pa "Convention" "natural", "natural", "Convention.natural", s_Convention_natural, [], []⟩
abbrev s_Convention_home : Stmt := sub (top 85) 9
def d_Convention_home : DefP := ⟨pa "Convention" "home", "home", "Convention.home", s_Convention_home, [], []⟩
abbrev s_Convention_tail : Stmt := sub (top 85) 10
def d_Convention_tail : DefP := ⟨pa "Convention" "tail", "tail", "Convention.tail", s_Convention_tail, [], []⟩
def fs0 : List (Fg → Bool) := [fun K => (He.Fa.glo "is_integer").ok K,
  fun K => (He.Fa.glo "is_count").ok K,
  fun K => (He.Fa.glo "is_count_from").ok K,
  fun K => (He.Fa.glo "is_name").ok K,
  fun K => (He.Fa.glo "is_decimal").ok K,
  fun K => (He.Fa.glo "is_extent_word").ok K,
  fun K => (He.Fa.glo "is_group_kinds").ok K,
  fun K => (He.Fa.glo "is_size").ok K,
  fun K => (He.Fa.glo "is_width").ok K,
  fun K => (He.Fa.glo "want_book").ok K,
  fun K => (He.Fa.glo "is_fills").ok K,
  fun K => (He.Fa.glo "is_option").ok K,
  fun K => (He.Fa.glo "all_fills").ok K,
  fun K => (He.Fa.glo "want_convention").ok K,
  fun K => (He.Fa.glo "yes_or_no").ok K,
  fun K => (He.Fa.glo "kind_line").ok K,
  fun K => (He.Fa.glo "fill_lines").ok K,
  fun K => (He.Fa.glo "text_of").ok K,
  fun K => (He.Fa.glo "number_in").ok K,
  fun K => (He.Fa.glo "kind_in").ok K,
  fun K => (He.Fa.glo "read_convention").ok K,
  fun K => (He.Fa.glo "_law_pot").ok K,
  fun K => (He.Fa.glo "_law_draw").ok K,
  fun K => (He.Fa.glo "_law_pick").ok K,
  fun K => (He.Fa.glo "_law_named").ok K]
def fs1 : List (Fg → Bool) := [fun K => (He.Fa.glo "_law_kinds").ok K,
  fun K => (He.Fa.glo "_law_book").ok K,
  fun K => (He.Fa.glo "_law_plan").ok K,
  fun K => (He.Fa.glo "_law_convention").ok K,
  fun K => (He.Fa.glo "_law_yes").ok K,
  fun K => (He.Fa.glo "_law_lines").ok K,
  fun K => (He.Fa.glo "_law_count").ok K,
  fun K => (He.Fa.glo "_law_is_kind").ok K,
  fun K => (He.Fa.glo "_law_options").ok K,
  fun K => (He.Fa.glo "_law_wrong").ok K,
  fun K => (He.Fa.glo "_law_other_row").ok K,
  fun K => (He.Fa.glo "_law_spoilt").ok K,
  fun K => (He.Fa.glo "_law_told").ok K,
  fun K => (He.Fa.glo "_law_is_told").ok K,
  fun K => (He.Fa.glo "_law_right").ok K,
  fun K => (He.Fa.glo "law").ok K,
  fun K => (He.Fa.meth "Fill" "__eq__").ok K,
  fun K => (He.Fa.meth "Kind" "parts").ok K,
  fun K => (He.Fa.meth "Book" "kinds").ok K,
  fun K => (He.Fa.meth "Book" "names").ok K,
  fun K => (He.Fa.meth "Book" "__contains__").ok K,
  fun K => (He.Fa.meth "Book" "__add__").ok K,
  fun K => (He.Fa.meth "Book" "__eq__").ok K,
  fun K => (He.Fa.meth "Convention" "fill").ok K,
  fun K => (He.Fa.meth "Convention" "changed").ok K]
def fs2 : List (Fg → Bool) := [fun K => (He.Fa.meth "Convention" "__eq__").ok K,
  fun K => (He.Fa.meth "Reading" "take").ok K,
  fun K => (He.Fa.meth "Reading" "is_done").ok K,
  fun K => (He.Fa.meth "Reading" "take_kind").ok K,
  fun K => (He.Fa.meth "Reading" "take_registers").ok K,
  fun K => (He.Fa.meth "Reading" "take_choice").ok K,
  fun K => (He.Fa.meth "Reading" "take_fill").ok K,
  fun K => (He.Fa.meth "Reading" "made_convention").ok K,
  propB "Fill" "word",
  propB "Fill" "extent",
  propB "Kind" "name",
  propB "Kind" "group",
  propB "Kind" "size",
  propB "Kind" "width",
  propB "Kind" "align",
  propB "Convention" "book",
  propB "Convention" "wholes",
  propB "Convention" "floats",
  propB "Convention" "together",
  propB "Convention" "doubles",
  propB "Convention" "again",
  propB "Convention" "slot",
  propB "Convention" "natural",
  propB "Convention" "home",
  propB "Convention" "tail"]
def fs3 : List (Fg → Bool) := [fun K => (He.Fa.glo "Fill").ok K,
  fun K => (He.Fa.cls "Fill").ok K,
  noatB "Fill" ["own_word", "own_extent"],
  fun K => (He.Fa.glo "Kind").ok K,
  fun K => (He.Fa.cls "Kind").ok K,
  noatB "Kind" ["own_name", "own_group", "own_size", "own_width", "own_align"],
  fun K => (He.Fa.glo "Book").ok K,
  fun K => (He.Fa.cls "Book").ok K,
  noatB "Book" ["own_kinds", "own_names", "own_parts"],
  fun K => (He.Fa.glo "Convention").ok K,
  fun K => (He.Fa.cls "Convention").ok K,
  noatB "Convention" ["own_book", "own_counts", "own_together", "own_doubles", "own_again", "own_slot", "own_natural", "own_home", "own_tail", "own_fills"],
  fun K => (He.Fa.glo "Reading").ok K,
  fun K => (He.Fa.cls "Reading").ok K,
  noatB "Reading" ["own_parts", "own_names", "own_options", "own_promises", "own_last"],
  fun K => (He.Fa.mkr "Fill").ok K,
  fun K => (He.Fa.mkr "Kind").ok K,
  fun K => (He.Fa.mkr "Book").ok K,
  fun K => (He.Fa.mkr "Convention").ok K,
  fun K => (He.Fa.mkr "Reading").ok K,
  eqB "Fill",
  eqB "Book",
  eqB "Convention",
  inB "Book",
  addB "Book" "Kind"]
def fs4 : List (Fg → Bool) := [cvalB "Book" "MOST_KINDS" (.int 5),
  fun K => (He.Fa.glo "InvalidText").ok K,
  oexB "InvalidText",
  iniB "InvalidText",
  fun K => (He.Fa.glo "CallError").ok K,
  bseB "CallError",
  fun K => (He.Fa.exm "InvalidText" "InvalidText" true).ok K,
  fun K => (He.Fa.str "LETTERS" "abcdefghijklmnopqrstuvwxyz").ok K,
  fun K => (He.Fa.str "DIGITS" "0123456789").ok K,
  fun K => (He.Fa.str "FREE" "free").ok K,
  fun K => (He.Fa.str "ZEROS" "zeros").ok K,
  fun K => (He.Fa.str "SIGN" "sign").ok K,
  fun K => (He.Fa.int "LONGEST_NAME" 8).ok K,
  fun K => (He.Fa.int "LEAST_EXTENT" 3).ok K,
  fun K => (He.Fa.int "MOST_EXTENT" 128).ok K,
  fun K => (He.Fa.int "DOUBLE_SIZE" 16).ok K,
  fun K => (He.Fa.int "REGISTER_BITS_kinds" 64).ok K,
  fun K => (He.Fa.int "FEWEST_BITS" 2).ok K,
  fun K => (He.Fa.int "MOST_REGISTERS_conventions" 3).ok K,
  fun K => (He.Fa.int "MOST_REGISTERS_texts" 3).ok K,
  fun K => (He.Fa.int "LONGEST_NUMBER" 3).ok K,
  fun K => (He.Fa.glo "GROUPS_kinds").ok K,
  fun K => He.tupB K "GROUPS_kinds" [.str "whole", .str "float"],
  fun K => (He.Fa.glo "SIZES").ok K,
  fun K => He.tupB K "SIZES" [.int 1, .int 2, .int 4, .int 8, .int 16]]
def fs5 : List (Fg → Bool) := [fun K => (He.Fa.glo "OPTIONS").ok K,
  fun K => He.tupB K "OPTIONS" [.str "wholes", .str "floats", .str "together", .str "doubles", .str "again", .str "slot", .str "natural", .str "home", .str "tail", .str "fills"],
  fun K => (He.Fa.free "isinstance").ok K,
  fun K => (He.Fa.free "int").ok K,
  fun K => (He.Fa.free "bool").ok K,
  fun K => (He.Fa.free "str").ok K,
  fun K => (He.Fa.free "all").ok K,
  fun K => (He.Fa.free "len").ok K,
  fun K => (He.Fa.free "range").ok K,
  fun K => (He.Fa.free "enumerate").ok K,
  fun K => (He.Fa.free "zip").ok K,
  fun K => (He.Fa.free "dict").ok K,
  fun K => (He.Fa.free "list").ok K,
  fun K => (He.Fa.free "tuple").ok K,
  fun K => (He.Fa.free "sorted").ok K,
  fun K => (He.Fa.free "max").ok K,
  fun K => (He.Fa.free "min").ok K,
  fun K => (He.Fa.free "abs").ok K,
  fun K => (He.Fa.free "divmod").ok K,
  fun K => (He.Fa.free "repr").ok K,
  fun K => (He.Fa.free "ValueError").ok K,
  fun K => (He.Fa.glo "CHOICES").ok K,
  fun K => choB K,
  fun K => decide (PySem.W.kitOne K (.ref (ga K "InvalidText")) (.ref (ga K "CallError")) = some true),
  fun K => decide (PySem.W.kitOne K (.ref (ga K "InvalidText")) (.type "ValueError") = some true)]
def fs6 : List (Fg → Bool) := [fun K => He.eqO (PySem.W.findIn K (.ref (ga K "InvalidText")) "line") (some none),
  fun K => decide (PySem.W.kitOne K (.ref (ga K "Convention")) (.type "str") = some false),
  fun K => decide (PySem.W.kitOne K (.ref (ga K "Kind")) (.ref (ga K "Kind")) = some true),
  fun K => decide (PySem.W.kitOne K (.ref (ga K "Fill")) (.ref (ga K "Fill")) = some true),
  fun K => decide (PySem.W.kitOne K (.ref (ga K "Book")) (.ref (ga K "Book")) = some true),
  fun K => decide (PySem.W.kitOne K (.ref (ga K "Convention")) (.ref (ga K "Convention")) = some true),
  tycB "Fill",
  tycB "Kind",
  tycB "Book",
  tycB "Convention",
  excB "InvalidText"]
def fs : List (Fg → Bool) := fs0 ++ fs1 ++ fs2 ++ fs3 ++ fs4 ++ fs5 ++ fs6
def fn0 : List DefP := [d_is_integer,
  d_is_count,
  d_is_count_from,
  d_is_name,
  d_is_decimal,
  d_is_extent_word,
  d_is_group_kinds,
  d_is_size,
  d_is_width,
  d_want_book,
  d_is_fills,
  d_is_option,
  d_all_fills,
  d_want_convention,
  d_yes_or_no,
  d_kind_line,
  d_fill_lines,
  d_text_of,
  d_number_in,
  d_kind_in,
  d_read_convention,
  d__law_pot,
  d__law_draw,
  d__law_pick,
  d__law_named]
def fn1 : List DefP := [d__law_kinds,
  d__law_book,
  d__law_plan,
  d__law_convention,
  d__law_yes,
  d__law_lines,
  d__law_count,
  d__law_is_kind,
  d__law_options,
  d__law_wrong,
  d__law_other_row,
  d__law_spoilt,
  d__law_told,
  d__law_is_told,
  d__law_right,
  d_law,
  d_Fill___init__,
  d_Fill___eq__,
  d_Kind___init__,
  d_Kind_parts,
  d_Book___init__,
  d_Book_kinds,
  d_Book_names,
  d_Book___contains__,
  d_Book___add__]
def fn2 : List DefP := [d_Book___eq__,
  d_Convention___init__,
  d_Convention_fill,
  d_Convention_changed,
  d_Convention___eq__,
  d_Reading___init__,
  d_Reading_take,
  d_Reading_is_done,
  d_Reading_take_kind,
  d_Reading_take_registers,
  d_Reading_take_choice,
  d_Reading_take_fill,
  d_Reading_made_convention,
  d_InvalidText___init__,
  d_Fill_word,
  d_Fill_extent,
  d_Kind_name,
  d_Kind_group,
  d_Kind_size,
  d_Kind_width,
  d_Kind_align,
  d_Convention_book,
  d_Convention_wholes,
  d_Convention_floats,
  d_Convention_together]
def fn3 : List DefP := [d_Convention_doubles,
  d_Convention_again,
  d_Convention_slot,
  d_Convention_natural,
  d_Convention_home,
  d_Convention_tail]
def fn : List DefP := fn0 ++ fn1 ++ fn2 ++ fn3
/-- the world of a run: program, world, what the top has written, its names, the heap behind it -/
structure Wd where
  P : Program
  w : World
  K : Fg
  mg : Str → Option Value
  base : Heap
structure Tx (W : Wd) : Prop where
  X : W.K.In W.base
  G : W.base.Ns mainGlobals W.mg
  S : SaysP fs fn W.K
section
variable {W : Wd}
theorem Tx.g_is_integer (T : Tx W) : W.mg "is_integer" = some (.ref (ga W.K "is_integer")) := He.glo_ok T.X T.G (T.S.fact 0 rfl)
theorem Tx.d_is_integer (T : Tx W) : ∃ fd, Df W.K d_is_integer fd := T.S.def_ 0 rfl
theorem Tx.g_is_count (T : Tx W) : W.mg "is_count" = some (.ref (ga W.K "is_count")) := He.glo_ok T.X T.G (T.S.fact 1 rfl)
theorem Tx.d_is_count (T : Tx W) : ∃ fd, Df W.K d_is_count fd := T.S.def_ 1 rfl
theorem Tx.g_is_count_from (T : Tx W) : W.mg "is_count_from" = some (.ref (ga W.K "is_count_from")) := He.glo_ok T.X T.G (T.S.fact 2 rfl)
theorem Tx.d_is_count_from (T : Tx W) : ∃ fd, Df W.K d_is_count_from fd := T.S.def_ 2 rfl
theorem Tx.g_is_name (T : Tx W) : W.mg "is_name" = some (.ref (ga W.K "is_name")) := He.glo_ok T.X T.G (T.S.fact 3 rfl)
theorem Tx.d_is_name (T : Tx W) : ∃ fd, Df W.K d_is_name fd := T.S.def_ 3 rfl
theorem Tx.g_is_decimal (T : Tx W) : W.mg "is_decimal" = some (.ref (ga W.K "is_decimal")) := He.glo_ok T.X T.G (T.S.fact 4 rfl)
theorem Tx.d_is_decimal (T : Tx W) : ∃ fd, Df W.K d_is_decimal fd := T.S.def_ 4 rfl
theorem Tx.g_is_extent_word (T : Tx W) : W.mg "is_extent_word" = some (.ref (ga W.K "is_extent_word")) := He.glo_ok T.X T.G (T.S.fact 5 rfl)
theorem Tx.d_is_extent_word (T : Tx W) : ∃ fd, Df W.K d_is_extent_word fd := T.S.def_ 5 rfl
theorem Tx.g_is_group_kinds (T : Tx W) : W.mg "is_group_kinds" = some (.ref (ga W.K "is_group_kinds")) := He.glo_ok T.X T.G (T.S.fact 6 rfl)
theorem Tx.d_is_group_kinds (T : Tx W) : ∃ fd, Df W.K d_is_group_kinds fd := T.S.def_ 6 rfl
theorem Tx.g_is_size (T : Tx W) : W.mg "is_size" = some (.ref (ga W.K "is_size")) := He.glo_ok T.X T.G (T.S.fact 7 rfl)
theorem Tx.d_is_size (T : Tx W) : ∃ fd, Df W.K d_is_size fd := T.S.def_ 7 rfl
theorem Tx.g_is_width (T : Tx W) : W.mg "is_width" = some (.ref (ga W.K "is_width")) := He.glo_ok T.X T.G (T.S.fact 8 rfl)
theorem Tx.d_is_width (T : Tx W) : ∃ fd, Df W.K d_is_width fd := T.S.def_ 8 rfl
theorem Tx.g_want_book (T : Tx W) : W.mg "want_book" = some (.ref (ga W.K "want_book")) := He.glo_ok T.X T.G (T.S.fact 9 rfl)
theorem Tx.d_want_book (T : Tx W) : ∃ fd, Df W.K d_want_book fd := T.S.def_ 9 rfl
theorem Tx.g_is_fills (T : Tx W) : W.mg "is_fills" = some (.ref (ga W.K "is_fills")) := He.glo_ok T.X T.G (T.S.fact 10 rfl)
theorem Tx.d_is_fills (T : Tx W) : ∃ fd, Df W.K d_is_fills fd := T.S.def_ 10 rfl
theorem Tx.g_is_option (T : Tx W) : W.mg "is_option" = some (.ref (ga W.K "is_option")) := He.glo_ok T.X T.G (T.S.fact 11 rfl)
theorem Tx.d_is_option (T : Tx W) : ∃ fd, Df W.K d_is_option fd := T.S.def_ 11 rfl
theorem Tx.g_all_fills (T : Tx W) : W.mg "all_fills" = some (.ref (ga W.K "all_fills")) := He.glo_ok T.X T.G (T.S.fact 12 rfl)
theorem Tx.d_all_fills (T : Tx W) : ∃ fd, Df W.K d_all_fills fd := T.S.def_ 12 rfl
theorem Tx.g_want_convention (T : Tx W) : W.mg "want_convention" = some (.ref (ga W.K "want_convention")) := He.glo_ok T.X T.G (T.S.fact 13 rfl)
theorem Tx.d_want_convention (T : Tx W) : ∃ fd, Df W.K d_want_convention fd := T.S.def_ 13 rfl
theorem Tx.g_yes_or_no (T : Tx W) : W.mg "yes_or_no" = some (.ref (ga W.K "yes_or_no")) := He.glo_ok T.X T.G (T.S.fact 14 rfl)
theorem Tx.d_yes_or_no (T : Tx W) : ∃ fd, Df W.K d_yes_or_no fd := T.S.def_ 14 rfl
theorem Tx.g_kind_line (T : Tx W) : W.mg "kind_line" = some (.ref (ga W.K "kind_line")) := He.glo_ok T.X T.G (T.S.fact 15 rfl)
theorem Tx.d_kind_line (T : Tx W) : ∃ fd, Df W.K d_kind_line fd := T.S.def_ 15 rfl
theorem Tx.g_fill_lines (T : Tx W) : W.mg "fill_lines" = some (.ref (ga W.K "fill_lines")) := He.glo_ok T.X T.G (T.S.fact 16 rfl)
theorem Tx.d_fill_lines (T : Tx W) : ∃ fd, Df W.K d_fill_lines fd := T.S.def_ 16 rfl
theorem Tx.g_text_of (T : Tx W) : W.mg "text_of" = some (.ref (ga W.K "text_of")) := He.glo_ok T.X T.G (T.S.fact 17 rfl)
theorem Tx.d_text_of (T : Tx W) : ∃ fd, Df W.K d_text_of fd := T.S.def_ 17 rfl
theorem Tx.g_number_in (T : Tx W) : W.mg "number_in" = some (.ref (ga W.K "number_in")) := He.glo_ok T.X T.G (T.S.fact 18 rfl)
theorem Tx.d_number_in (T : Tx W) : ∃ fd, Df W.K d_number_in fd := T.S.def_ 18 rfl
theorem Tx.g_kind_in (T : Tx W) : W.mg "kind_in" = some (.ref (ga W.K "kind_in")) := He.glo_ok T.X T.G (T.S.fact 19 rfl)
theorem Tx.d_kind_in (T : Tx W) : ∃ fd, Df W.K d_kind_in fd := T.S.def_ 19 rfl
theorem Tx.g_read_convention (T : Tx W) : W.mg "read_convention" = some (.ref (ga W.K "read_convention")) := He.glo_ok T.X T.G (T.S.fact 20 rfl)
theorem Tx.d_read_convention (T : Tx W) : ∃ fd, Df W.K d_read_convention fd := T.S.def_ 20 rfl
theorem Tx.g__law_pot (T : Tx W) : W.mg "_law_pot" = some (.ref (ga W.K "_law_pot")) := He.glo_ok T.X T.G (T.S.fact 21 rfl)
theorem Tx.d__law_pot (T : Tx W) : ∃ fd, Df W.K d__law_pot fd := T.S.def_ 21 rfl
theorem Tx.g__law_draw (T : Tx W) : W.mg "_law_draw" = some (.ref (ga W.K "_law_draw")) := He.glo_ok T.X T.G (T.S.fact 22 rfl)
theorem Tx.d__law_draw (T : Tx W) : ∃ fd, Df W.K d__law_draw fd := T.S.def_ 22 rfl
theorem Tx.g__law_pick (T : Tx W) : W.mg "_law_pick" = some (.ref (ga W.K "_law_pick")) := He.glo_ok T.X T.G (T.S.fact 23 rfl)
theorem Tx.d__law_pick (T : Tx W) : ∃ fd, Df W.K d__law_pick fd := T.S.def_ 23 rfl
theorem Tx.g__law_named (T : Tx W) : W.mg "_law_named" = some (.ref (ga W.K "_law_named")) := He.glo_ok T.X T.G (T.S.fact 24 rfl)
theorem Tx.d__law_named (T : Tx W) : ∃ fd, Df W.K d__law_named fd := T.S.def_ 24 rfl
theorem Tx.g__law_kinds (T : Tx W) : W.mg "_law_kinds" = some (.ref (ga W.K "_law_kinds")) := He.glo_ok T.X T.G (T.S.fact 25 rfl)
theorem Tx.d__law_kinds (T : Tx W) : ∃ fd, Df W.K d__law_kinds fd := T.S.def_ 25 rfl
theorem Tx.g__law_book (T : Tx W) : W.mg "_law_book" = some (.ref (ga W.K "_law_book")) := He.glo_ok T.X T.G (T.S.fact 26 rfl)
theorem Tx.d__law_book (T : Tx W) : ∃ fd, Df W.K d__law_book fd := T.S.def_ 26 rfl
theorem Tx.g__law_plan (T : Tx W) : W.mg "_law_plan" = some (.ref (ga W.K "_law_plan")) := He.glo_ok T.X T.G (T.S.fact 27 rfl)
theorem Tx.d__law_plan (T : Tx W) : ∃ fd, Df W.K d__law_plan fd := T.S.def_ 27 rfl
theorem Tx.g__law_convention (T : Tx W) : W.mg "_law_convention" = some (.ref (ga W.K "_law_convention")) := He.glo_ok T.X T.G (T.S.fact 28 rfl)
theorem Tx.d__law_convention (T : Tx W) : ∃ fd, Df W.K d__law_convention fd := T.S.def_ 28 rfl
theorem Tx.g__law_yes (T : Tx W) : W.mg "_law_yes" = some (.ref (ga W.K "_law_yes")) := He.glo_ok T.X T.G (T.S.fact 29 rfl)
theorem Tx.d__law_yes (T : Tx W) : ∃ fd, Df W.K d__law_yes fd := T.S.def_ 29 rfl
theorem Tx.g__law_lines (T : Tx W) : W.mg "_law_lines" = some (.ref (ga W.K "_law_lines")) := He.glo_ok T.X T.G (T.S.fact 30 rfl)
theorem Tx.d__law_lines (T : Tx W) : ∃ fd, Df W.K d__law_lines fd := T.S.def_ 30 rfl
theorem Tx.g__law_count (T : Tx W) : W.mg "_law_count" = some (.ref (ga W.K "_law_count")) := He.glo_ok T.X T.G (T.S.fact 31 rfl)
theorem Tx.d__law_count (T : Tx W) : ∃ fd, Df W.K d__law_count fd := T.S.def_ 31 rfl
theorem Tx.g__law_is_kind (T : Tx W) : W.mg "_law_is_kind" = some (.ref (ga W.K "_law_is_kind")) := He.glo_ok T.X T.G (T.S.fact 32 rfl)
theorem Tx.d__law_is_kind (T : Tx W) : ∃ fd, Df W.K d__law_is_kind fd := T.S.def_ 32 rfl
theorem Tx.g__law_options (T : Tx W) : W.mg "_law_options" = some (.ref (ga W.K "_law_options")) := He.glo_ok T.X T.G (T.S.fact 33 rfl)
theorem Tx.d__law_options (T : Tx W) : ∃ fd, Df W.K d__law_options fd := T.S.def_ 33 rfl
theorem Tx.g__law_wrong (T : Tx W) : W.mg "_law_wrong" = some (.ref (ga W.K "_law_wrong")) := He.glo_ok T.X T.G (T.S.fact 34 rfl)
theorem Tx.d__law_wrong (T : Tx W) : ∃ fd, Df W.K d__law_wrong fd := T.S.def_ 34 rfl
theorem Tx.g__law_other_row (T : Tx W) : W.mg "_law_other_row" = some (.ref (ga W.K "_law_other_row")) := He.glo_ok T.X T.G (T.S.fact 35 rfl)
theorem Tx.d__law_other_row (T : Tx W) : ∃ fd, Df W.K d__law_other_row fd := T.S.def_ 35 rfl
theorem Tx.g__law_spoilt (T : Tx W) : W.mg "_law_spoilt" = some (.ref (ga W.K "_law_spoilt")) := He.glo_ok T.X T.G (T.S.fact 36 rfl)
theorem Tx.d__law_spoilt (T : Tx W) : ∃ fd, Df W.K d__law_spoilt fd := T.S.def_ 36 rfl
theorem Tx.g__law_told (T : Tx W) : W.mg "_law_told" = some (.ref (ga W.K "_law_told")) := He.glo_ok T.X T.G (T.S.fact 37 rfl)
theorem Tx.d__law_told (T : Tx W) : ∃ fd, Df W.K d__law_told fd := T.S.def_ 37 rfl
theorem Tx.g__law_is_told (T : Tx W) : W.mg "_law_is_told" = some (.ref (ga W.K "_law_is_told")) := He.glo_ok T.X T.G (T.S.fact 38 rfl)
theorem Tx.d__law_is_told (T : Tx W) : ∃ fd, Df W.K d__law_is_told fd := T.S.def_ 38 rfl
theorem Tx.g__law_right (T : Tx W) : W.mg "_law_right" = some (.ref (ga W.K "_law_right")) := He.glo_ok T.X T.G (T.S.fact 39 rfl)
theorem Tx.d__law_right (T : Tx W) : ∃ fd, Df W.K d__law_right fd := T.S.def_ 39 rfl
theorem Tx.g_law (T : Tx W) : W.mg "law" = some (.ref (ga W.K "law")) := He.glo_ok T.X T.G (T.S.fact 40 rfl)
theorem Tx.d_law (T : Tx W) : ∃ fd, Df W.K d_law fd := T.S.def_ 40 rfl
theorem Tx.d_Fill___init__ (T : Tx W) : ∃ fd, Df W.K d_Fill___init__ fd := T.S.def_ 41 rfl
theorem Tx.m_Fill___eq__ (T : Tx W) : Meth W.K (ga W.K "Fill") "__eq__" (ca "Fill" "__eq__" W.K) := He.meth_ok (T.S.fact 41 rfl)
theorem Tx.d_Fill___eq__ (T : Tx W) : ∃ fd, Df W.K d_Fill___eq__ fd := T.S.def_ 42 rfl
theorem Tx.d_Kind___init__ (T : Tx W) : ∃ fd, Df W.K d_Kind___init__ fd := T.S.def_ 43 rfl
theorem Tx.m_Kind_parts (T : Tx W) : Meth W.K (ga W.K "Kind") "parts" (ca "Kind" "parts" W.K) := He.meth_ok (T.S.fact 42 rfl)
theorem Tx.d_Kind_parts (T : Tx W) : ∃ fd, Df W.K d_Kind_parts fd := T.S.def_ 44 rfl
theorem Tx.d_Book___init__ (T : Tx W) : ∃ fd, Df W.K d_Book___init__ fd := T.S.def_ 45 rfl
theorem Tx.m_Book_kinds (T : Tx W) : Meth W.K (ga W.K "Book") "kinds" (ca "Book" "kinds" W.K) := He.meth_ok (T.S.fact 43 rfl)
theorem Tx.d_Book_kinds (T : Tx W) : ∃ fd, Df W.K d_Book_kinds fd := T.S.def_ 46 rfl
theorem Tx.m_Book_names (T : Tx W) : Meth W.K (ga W.K "Book") "names" (ca "Book" "names" W.K) := He.meth_ok (T.S.fact 44 rfl)
theorem Tx.d_Book_names (T : Tx W) : ∃ fd, Df W.K d_Book_names fd := T.S.def_ 47 rfl
theorem Tx.m_Book___contains__ (T : Tx W) : Meth W.K (ga W.K "Book") "__contains__" (ca "Book" "__contains__" W.K) := He.meth_ok (T.S.fact 45 rfl)
theorem Tx.d_Book___contains__ (T : Tx W) : ∃ fd, Df W.K d_Book___contains__ fd := T.S.def_ 48 rfl
theorem Tx.m_Book___add__ (T : Tx W) : Meth W.K (ga W.K "Book") "__add__" (ca "Book" "__add__" W.K) := He.meth_ok (T.S.fact 46 rfl)
theorem Tx.d_Book___add__ (T : Tx W) : ∃ fd, Df W.K d_Book___add__ fd := T.S.def_ 49 rfl
theorem Tx.m_Book___eq__ (T : Tx W) : Meth W.K (ga W.K "Book") "__eq__" (ca "Book" "__eq__" W.K) := He.meth_ok (T.S.fact 47 rfl)
theorem Tx.d_Book___eq__ (T : Tx W) : ∃ fd, Df W.K d_Book___eq__ fd := T.S.def_ 50 rfl
theorem Tx.d_Convention___init__ (T : Tx W) : ∃ fd, Df W.K d_Convention___init__ fd := T.S.def_ 51 rfl
theorem Tx.m_Convention_fill (T : Tx W) : Meth W.K (ga W.K "Convention") "fill" (ca "Convention" "fill" W.K) := He.meth_ok (T.S.fact 48 rfl)
theorem Tx.d_Convention_fill (T : Tx W) : ∃ fd, Df W.K d_Convention_fill fd := T.S.def_ 52 rfl
theorem Tx.m_Convention_changed (T : Tx W) : Meth W.K (ga W.K "Convention") "changed" (ca "Convention" "changed" W.K) := He.meth_ok (T.S.fact 49 rfl)
theorem Tx.d_Convention_changed (T : Tx W) : ∃ fd, Df W.K d_Convention_changed fd := T.S.def_ 53 rfl
theorem Tx.m_Convention___eq__ (T : Tx W) : Meth W.K (ga W.K "Convention") "__eq__" (ca "Convention" "__eq__" W.K) := He.meth_ok (T.S.fact 50 rfl)
theorem Tx.d_Convention___eq__ (T : Tx W) : ∃ fd, Df W.K d_Convention___eq__ fd := T.S.def_ 54 rfl
theorem Tx.d_Reading___init__ (T : Tx W) : ∃ fd, Df W.K d_Reading___init__ fd := T.S.def_ 55 rfl
theorem Tx.m_Reading_take (T : Tx W) : Meth W.K (ga W.K "Reading") "take" (ca "Reading" "take" W.K) := He.meth_ok (T.S.fact 51 rfl)
theorem Tx.d_Reading_take (T : Tx W) : ∃ fd, Df W.K d_Reading_take fd := T.S.def_ 56 rfl
theorem Tx.m_Reading_is_done (T : Tx W) : Meth W.K (ga W.K "Reading") "is_done" (ca "Reading" "is_done" W.K) := He.meth_ok (T.S.fact 52 rfl)
theorem Tx.d_Reading_is_done (T : Tx W) : ∃ fd, Df W.K d_Reading_is_done fd := T.S.def_ 57 rfl
theorem Tx.m_Reading_take_kind (T : Tx W) : Meth W.K (ga W.K "Reading") "take_kind" (ca "Reading" "take_kind" W.K) := He.meth_ok (T.S.fact 53 rfl)
theorem Tx.d_Reading_take_kind (T : Tx W) : ∃ fd, Df W.K d_Reading_take_kind fd := T.S.def_ 58 rfl
theorem Tx.m_Reading_take_registers (T : Tx W) : Meth W.K (ga W.K "Reading") "take_registers" (ca "Reading" "take_registers" W.K) := He.meth_ok (T.S.fact 54 rfl)
theorem Tx.d_Reading_take_registers (T : Tx W) : ∃ fd, Df W.K d_Reading_take_registers fd := T.S.def_ 59 rfl
theorem Tx.m_Reading_take_choice (T : Tx W) : Meth W.K (ga W.K "Reading") "take_choice" (ca "Reading" "take_choice" W.K) := He.meth_ok (T.S.fact 55 rfl)
theorem Tx.d_Reading_take_choice (T : Tx W) : ∃ fd, Df W.K d_Reading_take_choice fd := T.S.def_ 60 rfl
theorem Tx.m_Reading_take_fill (T : Tx W) : Meth W.K (ga W.K "Reading") "take_fill" (ca "Reading" "take_fill" W.K) := He.meth_ok (T.S.fact 56 rfl)
theorem Tx.d_Reading_take_fill (T : Tx W) : ∃ fd, Df W.K d_Reading_take_fill fd := T.S.def_ 61 rfl
theorem Tx.m_Reading_made_convention (T : Tx W) : Meth W.K (ga W.K "Reading") "made_convention" (ca "Reading" "made_convention" W.K) := He.meth_ok (T.S.fact 57 rfl)
theorem Tx.d_Reading_made_convention (T : Tx W) : ∃ fd, Df W.K d_Reading_made_convention fd := T.S.def_ 62 rfl
theorem Tx.d_InvalidText___init__ (T : Tx W) : ∃ fd, Df W.K d_InvalidText___init__ fd := T.S.def_ 63 rfl
theorem Tx.p_Fill_word (T : Tx W) : PropOf W.K (ga W.K "Fill") "word" (ca "Fill" "word" W.K) (pa "Fill" "word" W.K) := propB_ok (T.S.fact 58 rfl)
theorem Tx.d_Fill_word (T : Tx W) : ∃ fd, Df W.K d_Fill_word fd := T.S.def_ 64 rfl
theorem Tx.p_Fill_extent (T : Tx W) : PropOf W.K (ga W.K "Fill") "extent" (ca "Fill" "extent" W.K) (pa "Fill" "extent" W.K) := propB_ok (T.S.fact 59 rfl)
theorem Tx.d_Fill_extent (T : Tx W) : ∃ fd, Df W.K d_Fill_extent fd := T.S.def_ 65 rfl
theorem Tx.p_Kind_name (T : Tx W) : PropOf W.K (ga W.K "Kind") "name" (ca "Kind" "name" W.K) (pa "Kind" "name" W.K) := propB_ok (T.S.fact 60 rfl)
theorem Tx.d_Kind_name (T : Tx W) : ∃ fd, Df W.K d_Kind_name fd := T.S.def_ 66 rfl
theorem Tx.p_Kind_group (T : Tx W) : PropOf W.K (ga W.K "Kind") "group" (ca "Kind" "group" W.K) (pa "Kind" "group" W.K) := propB_ok (T.S.fact 61 rfl)
theorem Tx.d_Kind_group (T : Tx W) : ∃ fd, Df W.K d_Kind_group fd := T.S.def_ 67 rfl
theorem Tx.p_Kind_size (T : Tx W) : PropOf W.K (ga W.K "Kind") "size" (ca "Kind" "size" W.K) (pa "Kind" "size" W.K) := propB_ok (T.S.fact 62 rfl)
theorem Tx.d_Kind_size (T : Tx W) : ∃ fd, Df W.K d_Kind_size fd := T.S.def_ 68 rfl
theorem Tx.p_Kind_width (T : Tx W) : PropOf W.K (ga W.K "Kind") "width" (ca "Kind" "width" W.K) (pa "Kind" "width" W.K) := propB_ok (T.S.fact 63 rfl)
theorem Tx.d_Kind_width (T : Tx W) : ∃ fd, Df W.K d_Kind_width fd := T.S.def_ 69 rfl
theorem Tx.p_Kind_align (T : Tx W) : PropOf W.K (ga W.K "Kind") "align" (ca "Kind" "align" W.K) (pa "Kind" "align" W.K) := propB_ok (T.S.fact 64 rfl)
theorem Tx.d_Kind_align (T : Tx W) : ∃ fd, Df W.K d_Kind_align fd := T.S.def_ 70 rfl
theorem Tx.p_Convention_book (T : Tx W) : PropOf W.K (ga W.K "Convention") "book" (ca "Convention" "book" W.K) (pa "Convention" "book" W.K) := propB_ok (T.S.fact 65 rfl)
theorem Tx.d_Convention_book (T : Tx W) : ∃ fd, Df W.K d_Convention_book fd := T.S.def_ 71 rfl
theorem Tx.p_Convention_wholes (T : Tx W) : PropOf W.K (ga W.K "Convention") "wholes" (ca "Convention" "wholes" W.K) (pa "Convention" "wholes" W.K) := propB_ok (T.S.fact 66 rfl)
theorem Tx.d_Convention_wholes (T : Tx W) : ∃ fd, Df W.K d_Convention_wholes fd := T.S.def_ 72 rfl
theorem Tx.p_Convention_floats (T : Tx W) : PropOf W.K (ga W.K "Convention") "floats" (ca "Convention" "floats" W.K) (pa "Convention" "floats" W.K) := propB_ok (T.S.fact 67 rfl)
theorem Tx.d_Convention_floats (T : Tx W) : ∃ fd, Df W.K d_Convention_floats fd := T.S.def_ 73 rfl
theorem Tx.p_Convention_together (T : Tx W) : PropOf W.K (ga W.K "Convention") "together" (ca "Convention" "together" W.K) (pa "Convention" "together" W.K) := propB_ok (T.S.fact 68 rfl)
theorem Tx.d_Convention_together (T : Tx W) : ∃ fd, Df W.K d_Convention_together fd := T.S.def_ 74 rfl
theorem Tx.p_Convention_doubles (T : Tx W) : PropOf W.K (ga W.K "Convention") "doubles" (ca "Convention" "doubles" W.K) (pa "Convention" "doubles" W.K) := propB_ok (T.S.fact 69 rfl)
theorem Tx.d_Convention_doubles (T : Tx W) : ∃ fd, Df W.K d_Convention_doubles fd := T.S.def_ 75 rfl
theorem Tx.p_Convention_again (T : Tx W) : PropOf W.K (ga W.K "Convention") "again" (ca "Convention" "again" W.K) (pa "Convention" "again" W.K) := propB_ok (T.S.fact 70 rfl)
theorem Tx.d_Convention_again (T : Tx W) : ∃ fd, Df W.K d_Convention_again fd := T.S.def_ 76 rfl
theorem Tx.p_Convention_slot (T : Tx W) : PropOf W.K (ga W.K "Convention") "slot" (ca "Convention" "slot" W.K) (pa "Convention" "slot" W.K) := propB_ok (T.S.fact 71 rfl)
theorem Tx.d_Convention_slot (T : Tx W) : ∃ fd, Df W.K d_Convention_slot fd := T.S.def_ 77 rfl
theorem Tx.p_Convention_natural (T : Tx W) : PropOf W.K (ga W.K "Convention") "natural" (ca "Convention" "natural" W.K) (pa "Convention" "natural" W.K) := propB_ok (T.S.fact 72 rfl)
theorem Tx.d_Convention_natural (T : Tx W) : ∃ fd, Df W.K d_Convention_natural fd := T.S.def_ 78 rfl
theorem Tx.p_Convention_home (T : Tx W) : PropOf W.K (ga W.K "Convention") "home" (ca "Convention" "home" W.K) (pa "Convention" "home" W.K) := propB_ok (T.S.fact 73 rfl)
theorem Tx.d_Convention_home (T : Tx W) : ∃ fd, Df W.K d_Convention_home fd := T.S.def_ 79 rfl
theorem Tx.p_Convention_tail (T : Tx W) : PropOf W.K (ga W.K "Convention") "tail" (ca "Convention" "tail" W.K) (pa "Convention" "tail" W.K) := propB_ok (T.S.fact 74 rfl)
theorem Tx.d_Convention_tail (T : Tx W) : ∃ fd, Df W.K d_Convention_tail fd := T.S.def_ 80 rfl
theorem Tx.g_Fill (T : Tx W) : W.mg "Fill" = some (.ref (ga W.K "Fill")) := He.glo_ok T.X T.G (T.S.fact 75 rfl)
theorem Tx.cls_Fill (T : Tx W) : Cls W.K (ga W.K "Fill") := He.cls_ok (T.S.fact 76 rfl)
theorem Tx.na_Fill (T : Tx W) {f : Str} (h : f ∈ (["own_word", "own_extent"] : List Str)) : NoAttr W.K (ga W.K "Fill") f := noatB_ok (T.S.fact 77 rfl) h
theorem Tx.g_Kind (T : Tx W) : W.mg "Kind" = some (.ref (ga W.K "Kind")) := He.glo_ok T.X T.G (T.S.fact 78 rfl)
theorem Tx.cls_Kind (T : Tx W) : Cls W.K (ga W.K "Kind") := He.cls_ok (T.S.fact 79 rfl)
theorem Tx.na_Kind (T : Tx W) {f : Str} (h : f ∈ (["own_name", "own_group", "own_size", "own_width", "own_align"] : List Str)) : NoAttr W.K (ga W.K "Kind") f := noatB_ok (T.S.fact 80 rfl) h
theorem Tx.g_Book (T : Tx W) : W.mg "Book" = some (.ref (ga W.K "Book")) := He.glo_ok T.X T.G (T.S.fact 81 rfl)
theorem Tx.cls_Book (T : Tx W) : Cls W.K (ga W.K "Book") := He.cls_ok (T.S.fact 82 rfl)
theorem Tx.na_Book (T : Tx W) {f : Str} (h : f ∈ (["own_kinds", "own_names", "own_parts"] : List Str)) : NoAttr W.K (ga W.K "Book") f := noatB_ok (T.S.fact 83 rfl) h
theorem Tx.g_Convention (T : Tx W) : W.mg "Convention" = some (.ref (ga W.K "Convention")) := He.glo_ok T.X T.G (T.S.fact 84 rfl)
theorem Tx.cls_Convention (T : Tx W) : Cls W.K (ga W.K "Convention") := He.cls_ok (T.S.fact 85 rfl)
theorem Tx.na_Convention (T : Tx W) {f : Str} (h : f ∈ (["own_book", "own_counts", "own_together", "own_doubles", "own_again", "own_slot", "own_natural", "own_home", "own_tail", "own_fills"] : List Str)) : NoAttr W.K (ga W.K "Convention") f := noatB_ok (T.S.fact 86 rfl) h
theorem Tx.g_Reading (T : Tx W) : W.mg "Reading" = some (.ref (ga W.K "Reading")) := He.glo_ok T.X T.G (T.S.fact 87 rfl)
theorem Tx.cls_Reading (T : Tx W) : Cls W.K (ga W.K "Reading") := He.cls_ok (T.S.fact 88 rfl)
theorem Tx.na_Reading (T : Tx W) {f : Str} (h : f ∈ (["own_parts", "own_names", "own_options", "own_promises", "own_last"] : List Str)) : NoAttr W.K (ga W.K "Reading") f := noatB_ok (T.S.fact 89 rfl) h
theorem Tx.mk_Fill (T : Tx W) : Mk W.K (ga W.K "Fill") (ca "Fill" "__init__" W.K) := He.mkr_ok (T.S.fact 90 rfl)
theorem Tx.mk_Kind (T : Tx W) : Mk W.K (ga W.K "Kind") (ca "Kind" "__init__" W.K) := He.mkr_ok (T.S.fact 91 rfl)
theorem Tx.mk_Book (T : Tx W) : Mk W.K (ga W.K "Book") (ca "Book" "__init__" W.K) := He.mkr_ok (T.S.fact 92 rfl)
theorem Tx.mk_Convention (T : Tx W) : Mk W.K (ga W.K "Convention") (ca "Convention" "__init__" W.K) := He.mkr_ok (T.S.fact 93 rfl)
theorem Tx.mk_Reading (T : Tx W) : Mk W.K (ga W.K "Reading") (ca "Reading" "__init__" W.K) := He.mkr_ok (T.S.fact 94 rfl)
theorem Tx.eq_Fill (T : Tx W) : OwnEqC W.K (ga W.K "Fill") (ca "Fill" "__eq__" W.K) := eqB_ok (T.S.fact 95 rfl)
theorem Tx.eq_Book (T : Tx W) : OwnEqC W.K (ga W.K "Book") (ca "Book" "__eq__" W.K) := eqB_ok (T.S.fact 96 rfl)
theorem Tx.eq_Convention (T : Tx W) : OwnEqC W.K (ga W.K "Convention") (ca "Convention" "__eq__" W.K) := eqB_ok (T.S.fact 97 rfl)
theorem Tx.in_Book (T : Tx W) : OwnInC W.K (ga W.K "Book") (ca "Book" "__contains__" W.K) := inB_ok (T.S.fact 98 rfl)
theorem Tx.add_Book_Kind (T : Tx W) : OwnAddC W.K (ga W.K "Book") (ca "Book" "__add__" W.K) (ga W.K "Kind") := addB_ok (T.S.fact 99 rfl)
theorem Tx.cv_Book_MOST_KINDS (T : Tx W) : ClX.CRead W.K (ga W.K "Book") (.type "type") ∧ ∃ u, ClX.CVal W.K (ga W.K "Book") (.type "type") "MOST_KINDS" ((.int 5 : He.Dv).v W.K) u := cvalB_ok (T.S.fact 100 rfl)
theorem Tx.g_InvalidText (T : Tx W) : W.mg "InvalidText" = some (.ref (ga W.K "InvalidText")) := He.glo_ok T.X T.G (T.S.fact 101 rfl)
theorem Tx.oex_InvalidText (T : Tx W) : OexC W.K (ga W.K "InvalidText") := oexB_ok (T.S.fact 102 rfl)
theorem Tx.ini_InvalidText (T : Tx W) : PySem.W.findIn W.K (.ref (ga W.K "InvalidText")) "__init__" = some (some (.ref (ca "InvalidText" "__init__" W.K))) ∧ PySem.W.typeIn W.K (.ref (ca "InvalidText" "__init__" W.K)) = some (.type "function") := iniB_ok (T.S.fact 103 rfl)
theorem Tx.g_CallError (T : Tx W) : W.mg "CallError" = some (.ref (ga W.K "CallError")) := He.glo_ok T.X T.G (T.S.fact 104 rfl)
theorem Tx.bse_CallError (T : Tx W) : BaseIni W.K (ga W.K "CallError") (.type "type") := bseB_ok (T.S.fact 105 rfl)
theorem Tx.exm_InvalidText_InvalidText (T : Tx W) : PySem.W.exmOne W.K (.ref (ga W.K "InvalidText")) (.ref (ga W.K "InvalidText")) = some true := He.exm_ok (T.S.fact 106 rfl)
theorem Tx.c_LETTERS (T : Tx W) : ∃ t, W.mg "LETTERS" = some (.str "abcdefghijklmnopqrstuvwxyz" t) := He.str_ok T.X T.G (T.S.fact 107 rfl)
theorem Tx.c_DIGITS (T : Tx W) : ∃ t, W.mg "DIGITS" = some (.str "0123456789" t) := He.str_ok T.X T.G (T.S.fact 108 rfl)
theorem Tx.c_FREE (T : Tx W) : ∃ t, W.mg "FREE" = some (.str "free" t) := He.str_ok T.X T.G (T.S.fact 109 rfl)
theorem Tx.c_ZEROS (T : Tx W) : ∃ t, W.mg "ZEROS" = some (.str "zeros" t) := He.str_ok T.X T.G (T.S.fact 110 rfl)
theorem Tx.c_SIGN (T : Tx W) : ∃ t, W.mg "SIGN" = some (.str "sign" t) := He.str_ok T.X T.G (T.S.fact 111 rfl)
theorem Tx.c_LONGEST_NAME (T : Tx W) : ∃ t, W.mg "LONGEST_NAME" = some (.int 8 t) := He.int_ok T.X T.G (T.S.fact 112 rfl)
theorem Tx.c_LEAST_EXTENT (T : Tx W) : ∃ t, W.mg "LEAST_EXTENT" = some (.int 3 t) := He.int_ok T.X T.G (T.S.fact 113 rfl)
theorem Tx.c_MOST_EXTENT (T : Tx W) : ∃ t, W.mg "MOST_EXTENT" = some (.int 128 t) := He.int_ok T.X T.G (T.S.fact 114 rfl)
theorem Tx.c_DOUBLE_SIZE (T : Tx W) : ∃ t, W.mg "DOUBLE_SIZE" = some (.int 16 t) := He.int_ok T.X T.G (T.S.fact 115 rfl)
theorem Tx.c_REGISTER_BITS_kinds (T : Tx W) : ∃ t, W.mg "REGISTER_BITS_kinds" = some (.int 64 t) := He.int_ok T.X T.G (T.S.fact 116 rfl)
theorem Tx.c_FEWEST_BITS (T : Tx W) : ∃ t, W.mg "FEWEST_BITS" = some (.int 2 t) := He.int_ok T.X T.G (T.S.fact 117 rfl)
theorem Tx.c_MOST_REGISTERS_conventions (T : Tx W) : ∃ t, W.mg "MOST_REGISTERS_conventions" = some (.int 3 t) := He.int_ok T.X T.G (T.S.fact 118 rfl)
theorem Tx.c_MOST_REGISTERS_texts (T : Tx W) : ∃ t, W.mg "MOST_REGISTERS_texts" = some (.int 3 t) := He.int_ok T.X T.G (T.S.fact 119 rfl)
theorem Tx.c_LONGEST_NUMBER (T : Tx W) : ∃ t, W.mg "LONGEST_NUMBER" = some (.int 3 t) := He.int_ok T.X T.G (T.S.fact 120 rfl)
theorem Tx.g_GROUPS_kinds (T : Tx W) : W.mg "GROUPS_kinds" = some (.ref (ga W.K "GROUPS_kinds")) := He.glo_ok T.X T.G (T.S.fact 121 rfl)
theorem Tx.t_GROUPS_kinds (T : Tx W) : ∀ H, SqT W.K H (ga W.K "GROUPS_kinds") [.str "whole", .str "float"] := He.tupB_ok (T.S.fact 122 rfl)
theorem Tx.g_SIZES (T : Tx W) : W.mg "SIZES" = some (.ref (ga W.K "SIZES")) := He.glo_ok T.X T.G (T.S.fact 123 rfl)
theorem Tx.t_SIZES (T : Tx W) : ∀ H, SqT W.K H (ga W.K "SIZES") [.int 1, .int 2, .int 4, .int 8, .int 16] := He.tupB_ok (T.S.fact 124 rfl)
theorem Tx.g_OPTIONS (T : Tx W) : W.mg "OPTIONS" = some (.ref (ga W.K "OPTIONS")) := He.glo_ok T.X T.G (T.S.fact 125 rfl)
theorem Tx.t_OPTIONS (T : Tx W) : ∀ H, SqT W.K H (ga W.K "OPTIONS") [.str "wholes", .str "floats", .str "together", .str "doubles", .str "again", .str "slot", .str "natural", .str "home", .str "tail", .str "fills"] := He.tupB_ok (T.S.fact 126 rfl)
theorem Tx.f_isinstance (T : Tx W) : W.mg "isinstance" = none := He.free_ok T.X T.G (T.S.fact 127 rfl)
theorem Tx.f_int (T : Tx W) : W.mg "int" = none := He.free_ok T.X T.G (T.S.fact 128 rfl)
theorem Tx.f_bool (T : Tx W) : W.mg "bool" = none := He.free_ok T.X T.G (T.S.fact 129 rfl)
theorem Tx.f_str (T : Tx W) : W.mg "str" = none := He.free_ok T.X T.G (T.S.fact 130 rfl)
theorem Tx.f_all (T : Tx W) : W.mg "all" = none := He.free_ok T.X T.G (T.S.fact 131 rfl)
theorem Tx.f_len (T : Tx W) : W.mg "len" = none := He.free_ok T.X T.G (T.S.fact 132 rfl)
theorem Tx.f_range (T : Tx W) : W.mg "range" = none := He.free_ok T.X T.G (T.S.fact 133 rfl)
theorem Tx.f_enumerate (T : Tx W) : W.mg "enumerate" = none := He.free_ok T.X T.G (T.S.fact 134 rfl)
theorem Tx.f_zip (T : Tx W) : W.mg "zip" = none := He.free_ok T.X T.G (T.S.fact 135 rfl)
theorem Tx.f_dict (T : Tx W) : W.mg "dict" = none := He.free_ok T.X T.G (T.S.fact 136 rfl)
theorem Tx.f_list (T : Tx W) : W.mg "list" = none := He.free_ok T.X T.G (T.S.fact 137 rfl)
theorem Tx.f_tuple (T : Tx W) : W.mg "tuple" = none := He.free_ok T.X T.G (T.S.fact 138 rfl)
theorem Tx.f_sorted (T : Tx W) : W.mg "sorted" = none := He.free_ok T.X T.G (T.S.fact 139 rfl)
theorem Tx.f_max (T : Tx W) : W.mg "max" = none := He.free_ok T.X T.G (T.S.fact 140 rfl)
theorem Tx.f_min (T : Tx W) : W.mg "min" = none := He.free_ok T.X T.G (T.S.fact 141 rfl)
theorem Tx.f_abs (T : Tx W) : W.mg "abs" = none := He.free_ok T.X T.G (T.S.fact 142 rfl)
theorem Tx.f_divmod (T : Tx W) : W.mg "divmod" = none := He.free_ok T.X T.G (T.S.fact 143 rfl)
theorem Tx.f_repr (T : Tx W) : W.mg "repr" = none := He.free_ok T.X T.G (T.S.fact 144 rfl)
theorem Tx.f_ValueError (T : Tx W) : W.mg "ValueError" = none := He.free_ok T.X T.G (T.S.fact 145 rfl)
theorem Tx.g_CHOICES (T : Tx W) : W.mg "CHOICES" = some (.ref (ga W.K "CHOICES")) := He.glo_ok T.X T.G (T.S.fact 146 rfl)
theorem Tx.t_CHOICES (T : Tx W) : ChoT W.K := choB_ok (T.S.fact 147 rfl)
theorem Tx.ki_CallError (T : Tx W) : PySem.W.kitOne W.K (.ref (ga W.K "InvalidText")) (.ref (ga W.K "CallError")) = some true := of_decide_eq_true (T.S.fact 148 rfl)
theorem Tx.ki_ValueError (T : Tx W) : PySem.W.kitOne W.K (.ref (ga W.K "InvalidText")) (.type "ValueError") = some true := of_decide_eq_true (T.S.fact 149 rfl)
theorem Tx.na_InvalidText (T : Tx W) : PySem.W.findIn W.K (.ref (ga W.K "InvalidText")) "line" = some none := He.eqO_ok (T.S.fact 150 rfl)
theorem Tx.ki_Convention (T : Tx W) : PySem.W.kitOne W.K (.ref (ga W.K "Convention")) (.type "str") = some false := of_decide_eq_true (T.S.fact 151 rfl)
theorem Tx.kk_Kind (T : Tx W) : PySem.W.kitOne W.K (.ref (ga W.K "Kind")) (.ref (ga W.K "Kind")) = some true := of_decide_eq_true (T.S.fact 152 rfl)
theorem Tx.kk_Fill (T : Tx W) : PySem.W.kitOne W.K (.ref (ga W.K "Fill")) (.ref (ga W.K "Fill")) = some true := of_decide_eq_true (T.S.fact 153 rfl)
theorem Tx.kk_Book (T : Tx W) : PySem.W.kitOne W.K (.ref (ga W.K "Book")) (.ref (ga W.K "Book")) = some true := of_decide_eq_true (T.S.fact 154 rfl)
theorem Tx.kk_Convention (T : Tx W) : PySem.W.kitOne W.K (.ref (ga W.K "Convention")) (.ref (ga W.K "Convention")) = some true := of_decide_eq_true (T.S.fact 155 rfl)
theorem Tx.ty_Fill (T : Tx W) : TyC W.K (ga W.K "Fill") := tycB_ok (T.S.fact 156 rfl)
theorem Tx.ty_Kind (T : Tx W) : TyC W.K (ga W.K "Kind") := tycB_ok (T.S.fact 157 rfl)
theorem Tx.ty_Book (T : Tx W) : TyC W.K (ga W.K "Book") := tycB_ok (T.S.fact 158 rfl)
theorem Tx.ty_Convention (T : Tx W) : TyC W.K (ga W.K "Convention") := tycB_ok (T.S.fact 159 rfl)
theorem Tx.exc_InvalidText (T : Tx W) : ExcC W.K (ga W.K "InvalidText") := excB_ok (T.S.fact 160 rfl)
end
end U
namespace U
open PySem PySem.W PySem.Calls PyProof.Rows
abbrev R : OpenRow := OpenLaw.row PySem.Challenge.rw_unlikecalls_k90_texts_and_wrong_lines
abbrev qv : Program := view R.prog [124]
def names0 : List PySem.Str := ["_wall", "__name__", "LETTERS", "DIGITS", "LONGEST_NAME", "is_integer", "is_count", "is_count_from", "is_name", "is_decimal", "next_multiple", "CallError", "InvalidNumber", "InvalidName", "InvalidPlace", "InvalidFill", "InvalidKind", "InvalidBook", "InvalidLetter", "InvalidSignature", "InvalidOption", "InvalidConvention", "InvalidState", "InvalidText", "MissingError", "UnknownKind", "StateError", "OtherBook", "LimitError", "TooMany"]
def names1 : List PySem.Str := ["FREE", "ZEROS", "SIGN", "LEAST_EXTENT", "MOST_EXTENT", "LEAST_WIDTH", "want_width", "is_extent_word", "Fill", "GROUPS_kinds", "SIZES", "DOUBLE_SIZE", "REGISTER_BITS_kinds", "FEWEST_BITS", "is_group", "is_group_kinds", "is_size", "is_width", "Kind", "Book", "want_book", "want_same_book", "Layout", "WHOLE", "FLOAT", "GROUPS_places", "MOST_NUMBER", "REGISTER_BITS_places", "BYTE_BITS", "MOST_BYTES"]
def names2 : List PySem.Str := ["is_group_places", "Place", "Register", "Slots", "first_wrong_letter", "Signature", "want_signature", "OPTIONS", "MOST_REGISTERS_conventions", "GROUPS_conventions", "HALF", "AREA_ALIGN", "MOST_IN_STATE", "is_fills", "is_option", "all_fills", "is_state", "Convention", "want_convention", "taken_registers", "used_and_closed", "slots_for", "stepped", "laid_out", "LONGEST_NUMBER", "MOST_REGISTERS_texts", "CHOICES", "yes_or_no", "kind_line", "fill_lines"]
def names3 : List PySem.Str := ["text_of", "number_in", "kind_in", "Reading", "read_convention", "_law_pot", "_law_draw", "_law_pick", "_law_named", "_law_kinds", "_law_book", "_law_plan", "_law_convention", "_law_yes", "_law_lines", "_law_count", "_law_is_kind", "_law_options", "_law_wrong", "_law_other_row", "_law_spoilt", "_law_told", "_law_is_told", "_law_right"]
def names : List PySem.Str := names0 ++ names1 ++ names2 ++ names3
def ad0 : List Nat := [3, 2, 489, 611, 686, 1322, 1495, 298, 69, 28, 27, 35, 34, 42, 41, 47, 46, 52, 51, 410, 409, 502, 501, 509, 508]
def ad1 : List Nat := [516, 515, 697, 696, 1169, 1168, 1176, 1175, 1181, 1180, 1333, 1332, 1402, 1401, 1409, 1408, 1416, 1415, 1421, 1420, 1428, 1427, 1433, 1432, 1506]
def ad2 : List Nat := [1505, 1513, 1512, 1520, 1519, 1527, 1526, 1532, 1531, 1539, 1538, 1546, 1545, 1553, 1552, 1560, 1559, 1567, 1566, 1572, 1571, 1577, 1576, 1582, 1581]
def ad3 : List Nat := [1589, 1588, 1594, 1593, 1601, 1600, 1608, 1607, 1615, 1614, 1622, 1621, 1627, 1626, 1632, 1631, 494, 495, 1162, 1395, 1394, 1393, 1392, 1391, 1390]
def ad4 : List Nat := [1389, 1388, 1387, 1386, 1385, 1384, 1383, 1382, 1381, 1380, 1379, 1378, 1377, 1376, 1375, 1374, 1373, 1372, 1371, 1370, 1369, 1368, 1367, 1366, 1365]
def ad5 : List Nat := [488, 487, 486, 485, 484, 483, 482, 481, 480, 479, 478, 477, 476, 475, 474, 473, 472, 471, 470, 469, 468, 467, 466, 465, 464]
def ad6 : List Nat := [463, 462, 461, 460, 459, 458, 457, 456, 455, 454, 453, 452, 451, 450, 449, 448, 447, 446, 445, 444, 443, 442, 441, 440, 439]
def ad7 : List Nat := [438, 437, 436, 435, 434, 433, 432, 431, 430, 429, 428, 427, 426, 425, 424, 423, 422, 421, 420, 419, 418, 417, 416, 415, 414]
def ad8 : List Nat := [413, 412, 411, 610, 609, 608, 607, 606, 605, 604, 603, 602, 601, 600, 599, 598, 597, 596, 595, 594, 593, 592, 591, 590, 589]
def ad9 : List Nat := [588, 587, 586, 585, 584, 583, 582, 581, 580, 579, 578, 577, 576, 575, 574, 573, 572, 571, 570, 569, 568, 567, 566, 565, 564]
def ad10 : List Nat := [563, 562, 561, 560, 559, 558, 557, 556, 555, 554, 553, 552, 551, 550, 549, 548, 547, 546, 545, 544, 543, 542, 541, 540, 539]
def ad11 : List Nat := [538, 537, 536, 535, 534, 533, 532, 531, 530, 529, 528, 527, 526, 525, 524, 523, 522, 521, 520, 519, 518, 517, 685, 684, 683]
def ad12 : List Nat := [682, 681, 680, 679, 678, 677, 676, 675, 674, 673, 672, 671, 670, 669, 668, 667, 666, 665, 664, 663, 662, 661, 660, 659, 658]
def ad13 : List Nat := [657, 656, 655, 654, 653, 652, 651, 650, 649, 648, 647, 646, 645, 644, 643, 642, 641, 640, 639, 638, 637, 636, 635, 634, 633]
def ad14 : List Nat := [632, 631, 630, 629, 628, 627, 626, 625, 624, 623, 622, 621, 620, 619, 618, 617, 616, 615, 614, 613, 612, 1321, 1320, 1319, 1318]
def ad15 : List Nat := [1317, 1316, 1315, 1314, 1313, 1312, 1311, 1310, 1309, 1308, 1307, 1306, 1305, 1304, 1303, 1302, 1301, 1300, 1299, 1298, 1297, 1296, 1295, 1294, 1293]
def ad16 : List Nat := [1292, 1291, 1290, 1289, 1288, 1287, 1286, 1285, 1284, 1283, 1282, 1281, 1280, 1279, 1278, 1277, 1276, 1275, 1274, 1273, 1272, 1271, 1270, 1269, 1268]
def ad17 : List Nat := [1267, 1266, 1265, 1264, 1263, 1262, 1261, 1260, 1259, 1258, 1257, 1256, 1255, 1254, 1253, 1252, 1251, 1250, 1249, 1248, 1247, 1246, 1245, 1244, 1243]
def ad18 : List Nat := [1242, 1241, 1240, 1239, 1238, 1237, 1236, 1235, 1234, 1233, 1232, 1231, 1230, 1229, 1228, 1227, 1226, 1225, 1224, 1223, 1222, 1221, 1220, 1219, 1218]
def ad19 : List Nat := [1217, 1216, 1215, 1214, 1213, 1212, 1211, 1210, 1209, 1208, 1207, 1206, 1205, 1204, 1203, 1202, 1201, 1200, 1199, 1198, 1197, 1196, 1195, 1194, 1193]
def ad20 : List Nat := [1192, 1191, 1190, 1189, 1188, 1187, 1494, 1493, 1492, 1491, 1490, 1489, 1488, 1487, 1486, 1485, 1484, 1483, 1482, 1481, 1480, 1479, 1478, 1477, 1476]
def ad21 : List Nat := [1475, 1474, 1473, 1472, 1471, 1470, 1469, 1468, 1467, 1466, 1465, 1464, 1463, 1462, 1461, 1460, 1459, 1458, 1457, 1456, 1455, 1454, 1453, 1452, 1451]
def ad22 : List Nat := [1450, 1449, 1448, 1447, 1446, 1445, 1444, 1443, 1442, 1441, 1440, 1439, 1438, 1437, 1436, 1435, 1434, 297, 296, 295, 294, 293, 292, 291, 290]
def ad23 : List Nat := [289, 288, 287, 286, 285, 284, 283, 282, 281, 280, 68, 67, 66, 65, 64, 63, 62, 61, 60, 73, 72, 71, 70]
def ads : List Nat := ad0 ++ ad1 ++ ad2 ++ ad3 ++ ad4 ++ ad5 ++ ad6 ++ ad7 ++ ad8 ++ ad9 ++ ad10 ++ ad11 ++ ad12 ++ ad13 ++ ad14 ++ ad15 ++ ad16 ++ ad17 ++ ad18 ++ ad19 ++ ad20 ++ ad21 ++ ad22 ++ ad23
def obsA (g : Addr → Option Obj) : AlP := obsP fs fn (He.frG g ads)
def hk : Hook where
  α := AlP
  obs := fun s => obsA s.heap.get?
  val := fun _ => valP fn
  says := fun _ h => ∃ K : Fg, K.In h ∧ SaysP fs fn K
  of := fun _ _ e => ⟨_, He.frG_in, e⟩
  keeps := fun _ _ _ ⟨K, hK, c⟩ k => ⟨K, PySem.W.Frag.In.keeps hK k, c⟩
def ob (s : SharedT) : AlP := obsA (HandSHeadRun.getT s)
theorem ob_eq (s : SharedT) : ob s = hk.obs s.abs := by
  have e : HandSHeadRun.getT s = s.abs.heap.get? := funext (HandSHeadRun.getT_eq s)
  show obsA _ = obsA _
  rw [e]
def Kt (s : SharedT) : Fg := He.frG (HandSHeadRun.getT s) ads
noncomputable def goes (w : World) (os : OsState) : Option SharedT := HandSHeadRun.endF (HandSHeadRun.stepQ (HandSHeadRun.denQ HandSHeadRun.tabQ) R.prog w) 16000 R.prog w os
theorem run1 (w : World) (os : OsState) : (goes w os).map (fun s => HandSHeadRun.looksF R.prog (boot_heap w.params) s.abs) = some true := by kernel_rfl
theorem run2 (w : World) (os : OsState) : (goes w os).map (fun s => HandSHeadRun.seenQ qv names (importedModules R.prog.main.body) (fun s => xlAt qv [] s && recOk R.toRowW.records s) s.abs) = some (openGood qv names) := by kernel_rfl
theorem run3a (w : World) (os : OsState) : (goes w os).map (fun s => (fs0 ++ fs1).all fun f => f (Kt s)) = some true := by kernel_rfl
theorem run3b (w : World) (os : OsState) : (goes w os).map (fun s => (fs2 ++ fs3).all fun f => f (Kt s)) = some true := by kernel_rfl
theorem run3c (w : World) (os : OsState) : (goes w os).map (fun s => (fs4 ++ fs5 ++ fs6).all fun f => f (Kt s)) = some true := by kernel_rfl
theorem run4_0 (w : World) (os : OsState) : (goes w os).map (fun s => (fn0.all (fun d => d.ok (Kt s)), fn0.map fun d => fnAt (Kt s) (d.ad (Kt s)))) = some (true, fn0.map DefP.val) := by kernel_rfl
theorem run4_1 (w : World) (os : OsState) : (goes w os).map (fun s => (fn1.all (fun d => d.ok (Kt s)), fn1.map fun d => fnAt (Kt s) (d.ad (Kt s)))) = some (true, fn1.map DefP.val) := by kernel_rfl
theorem run4_2 (w : World) (os : OsState) : (goes w os).map (fun s => (fn2.all (fun d => d.ok (Kt s)), fn2.map fun d => fnAt (Kt s) (d.ad (Kt s)))) = some (true, fn2.map DefP.val) := by kernel_rfl
theorem run4_3 (w : World) (os : OsState) : (goes w os).map (fun s => (fn3.all (fun d => d.ok (Kt s)), fn3.map fun d => fnAt (Kt s) (d.ad (Kt s)))) = some (true, fn3.map DefP.val) := by kernel_rfl
theorem run (w : World) : HandSHeadRun.RunEq R qv hk ob 16000 names w := by
  intro os
  have h1 := run1 w os
  have h2 := run2 w os
  have ha := run3a w os
  have hb := run3b w os
  have hc := run3c w os
  have hd0 := run4_0 w os
  have hd1 := run4_1 w os
  have hd2 := run4_2 w os
  have hd3 := run4_3 w os
  show (goes w os).map (fun s => (HandSHeadRun.looksF R.prog (boot_heap w.params) s.abs, HandSHeadRun.seenQ qv names (importedModules R.prog.main.body) (fun s => xlAt qv [] s && recOk R.toRowW.records s) s.abs, ob s)) = some (true, openGood qv names, valP fn)
  generalize goes w os = x at h1 h2 ha hb hc hd0 hd1 hd2 hd3 ⊢
  cases x with
  | none => cases h1
  | some s =>
    rw [Option.map_some] at h1 h2 ha hb hc hd0 hd1 hd2 hd3 ⊢
    have e1 := Option.some.inj h1
    have e2 := Option.some.inj h2
    have ea := Option.some.inj ha
    have eb := Option.some.inj hb
    have ec := Option.some.inj hc
    obtain ⟨f0, g0⟩ := Prod.mk.inj (Option.some.inj hd0)
    obtain ⟨f1, g1⟩ := Prod.mk.inj (Option.some.inj hd1)
    obtain ⟨f2, g2⟩ := Prod.mk.inj (Option.some.inj hd2)
    obtain ⟨f3, g3⟩ := Prod.mk.inj (Option.some.inj hd3)
    rw [e1, e2]
    have eF : (fs.all fun f => f (Kt s)) = true := by
      have : fs = (fs0 ++ fs1) ++ ((fs2 ++ fs3) ++ (fs4 ++ fs5 ++ fs6)) := by
        unfold fs
        simp only [List.append_assoc]
      have e9 : (fs.all fun f => f (Kt s)) = (((fs0 ++ fs1).all fun f => f (Kt s)) && (((fs2 ++ fs3).all fun f => f (Kt s)) && ((fs4 ++ fs5 ++ fs6).all fun f => f (Kt s)))) := by
        rw [this]
        simp only [List.all_append, Bool.and_assoc]
      rw [e9, ea, eb, ec]
      rfl
    have eD : (fn.all fun d => d.ok (Kt s)) = true := by
      have : fn = fn0 ++ (fn1 ++ (fn2 ++ fn3)) := by
        unfold fn
        simp only [List.append_assoc]
      rw [this, List.all_append, List.all_append, List.all_append, f0, f1, f2, f3]
      rfl
    have eV : (fn.map fun d => fnAt (Kt s) (d.ad (Kt s))) = fn.map DefP.val := by
      have : fn = fn0 ++ (fn1 ++ (fn2 ++ fn3)) := by
        unfold fn
        simp only [List.append_assoc]
      rw [this, List.map_append, List.map_append, List.map_append, List.map_append, List.map_append, List.map_append, g0, g1, g2, g3]
    have e5 : ob s = valP fn := by
      show ((fs.all (fun f => f (Kt s)) && fn.all fun d => d.ok (Kt s)), fn.map fun d => fnAt (Kt s) (d.ad (Kt s))) = (true, fn.map DefP.val)
      rw [eF, eD, eV]
      rfl
    rw [e5]
end U
/-! ## one dict merged into another one: f(**d), {**d, ..}, d.update(e) -/
namespace U
open PySem PySem.Spec PyProof.Rows L2
section
variable {prog : Program} {w : World} {A : Around} {E : Value → Shared → Prop} {s : Shared}
theorem put_pairs {d : Addr} {kvs : List (Key × Value)} {k : Key} {key v : Value} {Q : Unit → Shared → Prop} (hkey : keyIs k key = true) (hm : s.heap.DictOf (mixKind prog w) d kvs) (hz : kvs.length ≤ sizeLine)
    (hQ : ∀ h', h'.DictOf (mixKind prog w) d (stored kvs k v) → Heap.SameBut d s.heap h' → Q () { s with heap := h' }) : wpAny (model prog w) A (dictPut d ((mixKind prog w).hash k) key v) Q E s := by
  obtain ⟨o, es, ep, ho, hc, hd, hk, hp, hn⟩ := hm
  have hes : es.size ≤ sizeLine := by
    have e1 := hp.length
    have e2 : es.toList.length = es.size := by simp
    omega
  unfold dictPut
  refine wpAny_bind (wpAny_dictFind_of (knd := mixKind prog w) hkey ho hd hk ?_)
  have hidx : (es.findIdx? fun e => (mixKind prog w).is k e.key) = kvs.findIdx? fun kv => decide (kv.1 = k) := by
    rw [← hp.findIdx k]
    obtain ⟨l⟩ := es
    simp
  cases hi : es.findIdx? fun e => (mixKind prog w).is k e.key with
  | some i =>
    refine wpAny_updateDict ho hd (hQ _ ⟨_, _, ep, Heap.get?_update_self _ ho (Obj.isFreed_of_dict (Obj.data_mapDict hd _)), hc.mapDict _, Obj.data_mapDict hd _, hk.modify _ _, ?_, ?_⟩ (Heap.SameBut.update ..))
    · rw [stored, if_pos (any_of_findIdx_some (hidx ▸ hi))]
      have hl : (es.toList.findIdx? fun e => (mixKind prog w).is k e.key) = some i := by
        rw [← hi]
        obtain ⟨l⟩ := es
        simp
      have := hp.modify hn hl v
      obtain ⟨l⟩ := es
      simpa using this
    · rw [stored, if_pos (any_of_findIdx_some (hidx ▸ hi)), keys_map_store]
      exact hn
  | none =>
    have hnot : k ∉ kvs.map (·.1) := not_mem_of_findIdx_none (hidx ▸ hi)
    have hany : ¬ (kvs.any fun kv => decide (kv.1 = k)) = true := by
      rw [List.any_eq_true]
      rintro ⟨kv, hkv, he⟩
      exact hnot (List.mem_map.mpr ⟨kv, hkv, of_decide_eq_true he⟩)
    refine wpAny_updateDictKeys (hz := hes) ho hd (hQ _ ⟨_, _, ep + 1, Heap.get?_update_self _ ho (Obj.isFreed_of_dict (Obj.data_mapDictKeys hd _)), hc.mapDictKeys _, Obj.data_mapDictKeys hd _, hk.push hkey _, ?_, ?_⟩ (Heap.SameBut.update ..))
    · rw [stored, if_neg hany]
      have := hp.append hkey ((mixKind prog w).hash k) v
      obtain ⟨l⟩ := es
      simpa using this
    · rw [stored, if_neg hany, List.map_append, List.nodup_append]
      refine ⟨hn, by simp, ?_⟩
      intro a ha b hb
      simp only [List.map_cons, List.map_nil, List.mem_singleton] at hb
      subst hb
      exact fun e => hnot (e ▸ ha)
/-- what stands in the dict o goes into the dict d -/
theorem merge_pairs {d o : Addr} {kvs more : List (Key × Value)} {u : Bool} {Q : Unit → Shared → Prop} (hdo : d ≠ o) (hoS : (o == sysModules) = false)
    (hd : s.heap.DictOf (mixKind prog w) d kvs) (ho : s.heap.DictOf (mixKind prog w) o more) (hsz : kvs.length + more.length ≤ sizeLine) (hu : u = true → ∀ i kv, more[i]? = some kv → kv.1 ∉ (merged kvs (more.take i)).map (·.1))
    (hQ : ∀ h', h'.DictOf (mixKind prog w) d (merged kvs more) → h'.DictOf (mixKind prog w) o more → Heap.SameBut d s.heap h' → Q () { s with heap := h' }) :
    wpAny (model prog w) A (mergeMapping d (.ref o) u) Q E s := by
  obtain ⟨od, esd, epd, hod, hcd, hdd, hkd, hpd, hnd⟩ := id hd
  obtain ⟨oo, eso, epo, hoo, hco, hdo', hko, hpo, hno⟩ := id ho
  have hlen : more.length = eso.size := by rw [← hpo.length]; simp
  unfold mergeMapping
  refine wpAny_bind (wpAny_isInstance ho.typeIs isSubtype_dict_dict ?_)
  dsimp only
  rw [if_pos rfl]
  refine wpAny_bind (wpAny_specialOf ho.typeIs F.slot_dict_iter.lookup ?_)
  refine wpAny_bind (wpAny_pure ?_)
  simp only [beq_self_eq_true]
  rw [if_neg (by rw [hoS]; exact Bool.false_ne_true)]
  refine wpAny_bind (wpAny_dictEntries hod hdd ?_)
  have loop : wpAny (model prog w) A (do
      let l ← dictEntries o
      let epoch ← dictEpoch o
      forIn (List.range l.size) PUnit.unit fun i (_ : PUnit) => (do
          let l' ← dictEntries o
          match l'[i]? with
            | some e => do
              holding [e.key, e.val]
                  (if u = true then do
                    let r ← dictFind d e.key e.hash
                    if r.isSome = true then do
                        rule "dict.merge.duplicate-key"
                        let x ← newExc (Value.type "KeyError") [e.key]
                        (raiseNew x : Sem PUnit)
                        dictPut d e.hash e.key e.val
                      else dictPut d e.hash e.key e.val
                  else dictPut d e.hash e.key e.val)
              let ep' ← dictEpoch o
              if (ep' != epoch) = true then do
                  (unsupported "dict.changed-during-merge" : Sem PUnit)
                  pure (ForInStep.yield PUnit.unit)
                else pure (ForInStep.yield PUnit.unit)
            | x => do
              (unsupported "dict.changed-during-merge" : Sem PUnit)
              pure (ForInStep.yield PUnit.unit) : Sem (ForInStep PUnit))
      pure ()) Q E s := by
    refine wpAny_bind (wpAny_dictEntries hoo hdo' ?_)
    refine wpAny_bind (wpAny_dictEpoch hoo hdo' ?_)
    refine wpAny_bind ?_
    rw [List.range_eq_range']
    refine wpAny_forIn_list _
      (fun rest _ s' => ∃ h' i, s' = { s with heap := h' } ∧ rest = List.range' i (eso.size - i) ∧ i ≤ eso.size ∧ h'.DictOf (mixKind prog w) d (merged kvs (more.take i)) ∧ h'.get? o = some oo ∧ Heap.SameBut d s.heap h')
      _ ?_ ?_ _ _ ⟨s.heap, 0, rfl, by simp, Nat.zero_le _, by simpa [merged] using hd, hoo, Heap.SameBut.refl _ _⟩
    · rintro x rest b s' ⟨h', i, rfl, hr, hi, hd', hoo', hs'⟩
      have hlt : i < eso.size := by
        rcases Nat.lt_or_ge i eso.size with h | h
        · exact h
        · rw [Nat.sub_eq_zero_of_le h] at hr
          simp at hr
      obtain ⟨rfl, hrest⟩ : x = i ∧ rest = List.range' (i + 1) (eso.size - (i + 1)) := by
        have e : eso.size - i = (eso.size - (i + 1)) + 1 := by omega
        rw [e, List.range'_succ] at hr
        injection hr with h1 h2
        exact ⟨h1, h2⟩
      refine wpAny_bind (wpAny_dictEntries hoo' hdo' ?_)
      rw [Array.getElem?_eq_getElem hlt]
      obtain ⟨kv, hkv⟩ : ∃ kv, more[x]? = some kv := ⟨more[x]'(by rw [hlen]; exact hlt), List.getElem?_eq_getElem _⟩
      obtain ⟨k, v⟩ := kv
      obtain ⟨hkey, hval⟩ := hpo.get? (e := eso[x]) (by simp [hlt]) hkv
      obtain ⟨k', hkey', hhash⟩ := hko eso[x] (Array.getElem_mem hlt)
      obtain rfl : k' = k := (mixKind prog w).inj _ _ _ hkey' hkey
      have hmx : (merged kvs (more.take x)).length ≤ sizeLine := by
        have e1 := merged_length_le kvs (more.take x)
        have e2 : (more.take x).length ≤ more.length := by rw [List.length_take]; omega
        omega
      have put : ∀ R : ForInStep PUnit → Shared → Prop, (∀ h'', h''.DictOf (mixKind prog w) d (merged kvs (more.take (x + 1))) → h''.get? o = some oo → Heap.SameBut d s.heap h'' → R (.yield PUnit.unit) { s with heap := h'' }) →
          wpAny (model prog w) A (dictPut d eso[x].hash eso[x].key eso[x].val) (fun _ s2 => wpAny (model prog w) A (do
              let ep' ← dictEpoch o
              if (ep' != epo) = true then do
                  (unsupported "dict.changed-during-merge" : Sem PUnit)
                  pure (ForInStep.yield PUnit.unit)
                else pure (ForInStep.yield PUnit.unit)) R E s2) E { s with heap := h' } := by
        intro R hR
        rw [hhash, hval]
        refine put_pairs hkey hd' hmx fun h'' hd'' hs'' => ?_
        have hoo'' : h''.get? o = some oo := (hs''.2 o (Ne.symm hdo)).trans hoo'
        refine wpAny_bind (wpAny_dictEpoch hoo'' hdo' ?_)
        rw [if_neg (by simp)]
        exact wpAny_pure (hR h'' (by rw [merged_take_succ kvs more x (k', v) hkv]; exact hd'') hoo'' (hs'.trans hs''))
      refine wpAny_bind (wpAny_holding ?_)
      split
      · rename_i hut
        obtain ⟨od', esd', epd', hod', hcd', hdd', hkd', hpd', hnd'⟩ := id hd'
        rw [hhash]
        refine wpAny_bind (wpAny_dictFind_of (knd := mixKind prog w) hkey hod' hdd' hkd' ?_)
        have hidx : (esd'.findIdx? fun e => (mixKind prog w).is k' e.key) = none := by
          have e1 : (esd'.findIdx? fun e => (mixKind prog w).is k' e.key) = (merged kvs (more.take x)).findIdx? fun kv => decide (kv.1 = k') := by
            rw [← hpd'.findIdx k']
            obtain ⟨l⟩ := esd'
            simp
          rw [e1, List.findIdx?_eq_none_iff]
          intro kv hkv2
          refine decide_eq_false fun z => ?_
          have z2 : kv.1 ∉ (merged kvs (more.take x)).map (·.1) := by
            rw [z]
            exact hu hut x _ hkv
          exact z2 (List.mem_map.mpr ⟨kv, hkv2, rfl⟩)
        rw [hidx, if_neg (by simp), ← hhash]
        exact put _ fun h'' p1 p2 p3 => ⟨h'', x + 1, rfl, hrest, hlt, p1, p2, p3⟩
      · exact put _ fun h'' p1 p2 p3 => ⟨h'', x + 1, rfl, hrest, hlt, p1, p2, p3⟩
    · rintro b s' ⟨h', i, rfl, hr, hi, hd', hoo', hs'⟩
      have hin : i = eso.size := by
        rcases Nat.lt_or_ge i eso.size with h | h
        · have e : eso.size - i = (eso.size - (i + 1)) + 1 := by omega
          rw [e, List.range'_succ] at hr
          exact nomatch hr
        · exact Nat.le_antisymm hi h
      refine wpAny_pure (hQ h' ?_ ⟨oo, eso, epo, hoo', hco, hdo', hko, hpo, hno⟩ hs')
      rw [hin, ← hlen, List.take_length] at hd'
      exact hd'
  split
  · refine wpAny_bind (wpAny_dictEntries hoo hdo' ?_)
    refine wpAny_bind ?_
    rw [← Array.forIn_toList]
    refine wpAny_forIn_list _ (fun rest _ s' => s' = s ∧ ∀ e ∈ rest, ∃ k, keyIs k e.key = true) _ ?_ ?_ _ _ ⟨rfl, fun e he => ?_⟩
    · rintro e rest b s' ⟨rfl, hk⟩
      obtain ⟨k, hkey⟩ := hk e List.mem_cons_self
      rcases keyIs_shape hkey with ⟨i, t, _, e1⟩ | ⟨x, t, _, e1⟩
      · rw [e1]
        exact wpAny_pure ⟨rfl, fun e he => hk e (List.mem_cons_of_mem _ he)⟩
      · rw [e1]
        exact wpAny_pure ⟨rfl, fun e he => hk e (List.mem_cons_of_mem _ he)⟩
    · rintro b s' ⟨rfl, _⟩
      exact loop
    · obtain ⟨k, hk, _⟩ := hko e (Array.mem_toList_iff.mp he)
      exact ⟨k, hk⟩
  · exact loop
end
end U
/-! ## C(e, .., **d) -/
namespace U
open PySem PySem.Spec PyProof.Rows L2
section
variable {M : Model} {A : Around} {E : Value → Shared → Prop} {s : Shared} {f : Value} {first : List Value} {pos : Pos}
theorem kk_call {Q : Value → Shared → Prop} {P : Heap → Prop} {args : List (Bool × Sem Value)} {keywords : List (Option Str × Sem Value)} (hst : (args.any (·.1) || keywords.any (·.1.isNone)) = true)
    (hk : ∀ h, P h → ∃ k, (k = Keeper.frame ∨ k = Keeper.machine ∨ k = Keeper.boundFrame) ∧ PySem.W.Looks M h (keeperOf f) k)
    (h : wpAny M A (evalArgs f true args keywords) (fun a s₁ => P s₁.heap ∧ wpAny M A (call f (first ++ a.pos) a.kw) Q E s₁) E s) : wpAny M A (callWith pos f first args keywords) Q E s := by
  unfold callWith
  refine wpAny_bind (wpAny_holding (wpAny_mono h (fun a s₁ h₁ => wpAny_bind (wpAny_standAt ?_)) fun _ _ x => x))
  obtain ⟨k, hk', L⟩ := hk _ h₁.1
  simp only [hst]
  refine wpAny_bind (L.here ?_)
  have tail : ∀ {t : Sem Value}, wpAny M A t Q E s₁ → wpAny M A (t >>= fun r => holding [r] point >>= fun _ => pure r) Q E s₁ :=
    fun ht => wpAny_bind (wpAny_mono ht (fun r s₂ hr => wpAny_bind (wpAny_holding (wpAny_point (wpAny_pure hr)))) fun _ _ x => x)
  have marked (mk : Value) : wpAny M A (callMarked mk f (first ++ a.pos) a.kw) Q E s₁ := by
    unfold callMarked
    exact Calls.wpAny_keep h₁.2
  rcases hk' with rfl | rfl | rfl <;> dsimp only <;> first | exact tail (marked _) | exact tail (wpAny_operating h₁.2)
theorem kk_args {Q : Args → Shared → Prop} {a0 x : Sem Value} {rest : List (Bool × Sem Value)}
    (h : wpAny M A (spliced ((false, a0) :: rest)) (fun us s1 => wpAny M A (mergedKeywords f [(none, x)]) (fun d s2 => wpAny M A (keywordsIn f d) (fun kw s3 => Q ⟨us, kw⟩ s3) E s2) E s1) E s) :
    wpAny M A (evalArgs f true ((false, a0) :: rest) [(none, x)]) Q E s := by
  unfold evalArgs
  refine wpAny_bind (m := spliced ((false, a0) :: rest)) (wpAny_mono h (fun us s1 h1 => ?_) fun _ _ z => z)
  refine wpAny_holding ?_
  simp only [List.all_cons, Option.isSome_none, Bool.false_and, Bool.false_eq_true, if_false]
  refine wpAny_bind (wpAny_mono h1 (fun d s2 h2 => ?_) fun _ _ z => z)
  refine wpAny_bind (wpAny_pure ?_)
  exact wpAny_bind (wpAny_holding (wpAny_mono h2 (fun kw s3 h3 => wpAny_pure h3) fun _ _ z => z))
end
section
variable {prog : Program} {w : World} {A : Around} {E : Value → Shared → Prop} {s : Shared} {f : Value}
/-- the keywords that a dict with text keys tells -/
def kwOf (kvs : List (Key × Value)) : List (Str × Value) := kvs.filterMap fun p => match p.1 with
  | .inr x => some (x, p.2)
  | .inl _ => none
theorem keywords_in {d : Addr} {kvs : List (Key × Value)} {Q : List (Str × Value) → Shared → Prop} (hd : s.heap.DictOf (mixKind prog w) d kvs) (hs : ∀ p ∈ kvs, ∃ x, p.1 = Sum.inr x) (h : Q (kwOf kvs) s) :
    wpAny (model prog w) A (keywordsIn f d) Q E s := by
  obtain ⟨o, es, ep, ho, hc, hdd, hk, hp, hn⟩ := hd
  unfold keywordsIn
  refine wpAny_bind (wpAny_dictEntries ho hdd ?_)
  refine wpAny_bind ?_
  rw [← Array.forIn_toList]
  refine wpAny_forIn_list _ (fun rest acc s' => s' = s ∧ ∃ m : List (Key × Value), Pairs (mixKind prog w) rest m ∧ (∀ p ∈ m, ∃ x, p.1 = Sum.inr x) ∧ acc ++ kwOf m = kwOf kvs) _ ?_ ?_ _ _ ⟨rfl, kvs, hp, hs, rfl⟩
  · rintro e rest acc s' ⟨rfl, m, hm, hm2, hacc⟩
    cases hm with
    | @cons _ kv _ m2 h1 h2 h3 =>
      obtain ⟨x, hx⟩ := hm2 kv List.mem_cons_self
      rw [hx] at h1
      obtain ⟨t, ht⟩ : ∃ t, e.key = Value.str x t := by
        rcases keyIs_shape (k := Sum.inr x) (v := e.key) h1 with ⟨i, t, z, _⟩ | ⟨y, t, z, e1⟩
        · cases z
        · cases z
          exact ⟨t, e1⟩
      rw [ht]
      refine wpAny_pure ⟨rfl, m2, h3, fun p hp => hm2 p (List.mem_cons_of_mem _ hp), ?_⟩
      rw [← hacc, h2]
      have e2 : kwOf (kv :: m2) = (x, kv.2) :: kwOf m2 := by
        unfold kwOf
        rw [List.filterMap_cons, hx]
      rw [e2, List.append_assoc]
      rfl
  · rintro acc s' ⟨rfl, m, hm, _, hacc⟩
    cases hm
    have e3 : acc = kwOf kvs := by
      rw [← hacc]
      exact (List.append_nil acc).symm
    rw [e3]
    exact wpAny_pure h
theorem kwOf_zip : ∀ (ks : List Str) (vs : List Value), kwOf ((ks.map Sum.inr : List Key).zip vs) = ks.zip vs
  | [], _ => rfl
  | _ :: _, [] => rfl
  | k :: ks, v :: vs => by
    have e := kwOf_zip ks vs
    unfold kwOf at e ⊢
    rw [List.map_cons, List.zip_cons_cons, List.filterMap_cons, List.zip_cons_cons]
    dsimp only
    rw [e]
/-- the new dict of f(.., **x): x is worth a dict with text keys -/
theorem merged_kw {x : Sem Value} {Q : Addr → Shared → Prop} (hsz : s.heap.objs.size ≠ sysModules)
    (hx : ∀ h', h' = s.heap.push { cls := .type "dict", data := .dict #[] } → wpAny (model prog w) A x (fun v s2 => ∃ (a : Addr) (more : List (Key × Value)), v = .ref a ∧ a ≠ s.heap.objs.size ∧ (a == sysModules) = false ∧ s2.heap.get? s.heap.objs.size = some { cls := .type "dict", data := .dict #[] } ∧
      s2.heap.DictOf (mixKind prog w) a more ∧ more.length ≤ sizeLine ∧ ∀ h3, h3.DictOf (mixKind prog w) s.heap.objs.size more → Heap.SameBut s.heap.objs.size s2.heap h3 → Q s.heap.objs.size { s2 with heap := h3 }) E { s with heap := h' }) :
    wpAny (model prog w) A (mergedKeywords f [(none, x)]) Q E s := by
  unfold mergedKeywords
  refine wpAny_bind (wpAny_alloc ?_)
  refine wpAny_bind (wpAny_holding ?_)
  dsimp only
  refine wpAny_bind ?_
  rw [List.forIn_cons]
  refine wpAny_bind ?_
  refine wpAny_bind (wpAny_pure ?_)
  refine wpAny_bind (wpAny_mono (hx _ rfl) (fun v s2 h2 => ?_) fun _ _ z => z)
  obtain ⟨a, more, rfl, hne, hS, hd, ha, hz, k⟩ := h2
  refine wpAny_bind (wpAny_onRaise (wpAny_holding (wpAny_tryCatch (wpAny_onRaise ?_))))
  have hd0 : s2.heap.DictOf (mixKind prog w) s.heap.objs.size [] := ⟨_, #[], 0, hd, ⟨rfl, rfl, rfl⟩, rfl, fun _ he => by simp at he, .nil, by simp⟩
  refine merge_pairs (Ne.symm hne) hS hd0 ha (by simpa using hz) (fun _ i kv hkv => ?_) fun h3 d3 a3 sb => ?_
  · have hn : (more.map (·.1)).Nodup := by
      obtain ⟨_, _, _, _, _, _, _, _, hn⟩ := ha
      exact hn
    rw [merged_nil_of_nodup _ (by rw [List.map_take]; exact List.Nodup.sublist (List.take_sublist _ _) hn)]
    intro hm
    rw [List.map_take] at hm
    obtain ⟨j, hj, e⟩ := List.mem_take_iff_getElem.mp hm
    have hi : i < more.length := (List.getElem?_eq_some_iff.mp hkv).1
    have e2 : (more.map (·.1))[i]'(by rw [List.length_map]; exact hi) = kv.1 := by
      rw [List.getElem_map]
      obtain ⟨_, e3⟩ := List.getElem?_eq_some_iff.mp hkv
      rw [e3]
    have hj2 : j < i := by omega
    exact List.pairwise_iff_getElem.mp hn j i (by rw [List.length_map]; omega) (by rw [List.length_map]; exact hi) hj2 (e.trans e2.symm)
  · have hn : (more.map (·.1)).Nodup := by
      obtain ⟨_, _, _, _, _, _, _, _, hn⟩ := ha
      exact hn
    rw [merged_nil_of_nodup _ hn] at d3
    refine wpAny_pure ?_
    dsimp only
    rw [List.forIn_nil]
    refine wpAny_pure ?_
    refine wpAny_pure ?_
    exact wpAny_pure (k h3 d3 sb)
end

/-- C(e, .., **d): n values and a dict with the keys ks, in this order; a new instance and its dict, then __init__ -/
def tMakeKK (K : PySem.W.Frag) (C : Addr) (n : Nat) (ks : List Str) (sp : Sp) (gV : List V → List V → List V) (E : XK) (t : TA) (td : TE) : TE := fun σ H Q => t σ H fun vs H1 => td σ H1 fun z H2 => ∃ (a : Addr) (kvs : List (Key × V)), z = .ref a ∧ Rd H2 a (.dK kvs) ∧
  kvs.map (·.1) = ks.map Sum.inr ∧ vs.length = n ∧ ∀ x dx, H2 x = none → H2 dx = none → dx ≠ x → sp (gV (.ref x :: vs) (kvs.map (·.2))) (upd (upd H2 dx (.own x)) x (.ins C dx [])) (fun v H3 => v = .non ∧ Q (.ref x) H3) E
section
variable {X : Cx} {CX : CXT} {k n : Nat} {f C : Addr} {fd : FuncData} {ps ks : List Str} {sp : Sp} {E : XK} {x : Str} {p pos kp : Pos} {e de : Expr} {es : List Expr} {t : TA} {td : TE} {g : List Value → List Value → List Value} {gV : List V → List V → List V}
theorem KV.keys {κ : Type} : ∀ {kvs : List (κ × V)} {ws : List (κ × Value)}, KV kvs ws → ws.map (·.1) = kvs.map (·.1) ∧ Vals (kvs.map (·.2)) (ws.map (·.2))
  | _, _, .nil => ⟨rfl, .nil⟩
  | _, _, .cons ⟨a, b⟩ r => by
    obtain ⟨h1, h2⟩ := KV.keys r
    exact ⟨by rw [List.map_cons, List.map_cons, h1, a], .cons b h2⟩
theorem zip_map12 {α β : Type} : ∀ l : List (α × β), (l.map (·.1)).zip (l.map (·.2)) = l
  | [] => rfl
  | _ :: r => by
    rw [List.map_cons, List.map_cons, List.zip_cons_cons, zip_map12 r]
theorem pe_makeKK (M : Mk X.K C f) (F : FnOk X.prog X.w X.K X.mg X.base CX k f fd ps sp) (hr : Room (k + 1) X.A) (hg : Gl X x) (hm : X.mg x = some (.ref C)) (hb : KBn X.K fd ps (n + 1) ks g gV) (hx : Passes CX X E)
    (ha : PA X (e :: es) t) (hde : PE X de td) (hdb : (x == ("__debug__" : Str)) = false := by decide) (he : starEach (e :: es) X.env = (false, eval e X.env) :: starEach es X.env := by rfl) :
    PE X (.Call (.Name x p) (e :: es) [⟨none, de, kp⟩] pos) (tMakeKK X.K C n ks sp gV E t td) := by
  refine ⟨fun pins s σ H Q I h => ?_⟩
  refine wpAny_Call_Name_kw (ld_glob I hg hm ?_ hdb)
  have ha2 := ha.run pos pins s σ H _ I h
  rw [he] at ha2 ⊢
  refine kk_call (P := X.K.In) ?_ (PySem.W.keeps_K M.kp) (kk_args (thn ha2 fun us s1 ⟨vs, H1, I1, r, q⟩ => ?_))
  · show (_ || true) = true
    rw [Bool.or_true]
  have hn : H1 s1.heap.objs.size = none := I1.hok.fresh (Nat.le_refl _)
  have fp := I1.fpOk (Nat.le_refl _) hn
  have big : sysModules < s1.heap.objs.size := StX.env0_big I1.env0
  refine merged_kw (Nat.ne_of_gt big) fun h' eh => ?_
  subst eh
  have I1' := ClX.pin_new (t' := s1.toks) (o := ({ cls := .type "dict", data := .dict #[] } : Obj)) I1 (fun _ _ z => Heap.get?_push_of_some _ z) (Nat.le_refl _) (Heap.get?_push_size s1.heap rfl) (fun v z => nomatch z)
  refine wpAny_bind (thn (hde.run _ _ σ H1 _ I1' q) fun v s2 ⟨z, H2, I2, rz, a, kvs, ez, hrd, hks, hl, k2⟩ => wpAny_bind (wpAny_standAt (wpAny_pure ?_)))
  subst ez
  cases (show v = Value.ref a from rz)
  have I2u := ClX.unpin I2
  have hd2 := ClX.pin_at I2
  have hun : H2 s1.heap.objs.size = none := ClX.pin_un I2
  obtain ⟨hz, hS, ws, kv, hdict⟩ := hrd.ok I2u.hok
  obtain ⟨ek, rv⟩ := KV.keys kv
  have hne : a ≠ s1.heap.objs.size := fun z => by
    rcases hrd with h3 | ⟨o, h3⟩ <;> (rw [z, hun] at h3; cases h3)
  refine ⟨a, ws, rfl, hne, hS, hd2, hdict, by rw [← Paired.length kv]; exact hz, fun h3 d3 sb => ?_⟩
  have I3 : Inv X pins σ H2 { s2 with heap := h3 } := I2u.turned (it := s1.heap.objs.size) (fun b o hb ho => (sb.2 b hb).trans ho) hun fp.2.1 fp.2.2.2.1 fp.2.2.2.2.1 fp.2.2.2.2.2
  have ews : ws = (ks.map Sum.inr : List Key).zip (ws.map (·.2)) := by
    have e1 : ws.map (·.1) = (ks.map Sum.inr : List Key) := ek.trans hks
    rw [← e1]
    exact (zip_map12 ws).symm
  refine keywords_in d3 (fun p hp => ?_) ?_
  · have h4 : p.1 ∈ (ks.map Sum.inr : List Key) := by
      rw [← hks, ← ek]
      exact List.mem_map.mpr ⟨p, hp, rfl⟩
    obtain ⟨y, _, hy⟩ := List.mem_map.mp h4
    exact ⟨y, hy.symm⟩
  · refine ⟨I3.kIn, ?_⟩
    rw [ews, kwOf_zip]
    refine run_makeN M F hr hb hx I3 r rv hl ?_ k2
    rw [List.length_map]
    have e5 := congrArg List.length hks
    rw [List.length_map, List.length_map] at e5
    exact e5
end
end U
/-! ## C(*e), C(*e, f): an instance made with starred arguments -/
namespace U
open PySem PySem.Spec PyProof.Rows L2 StX
section
variable {M : Model} {A : Around} {E : Value → Shared → Prop} {s : Shared}
theorem evalArgs_st2 {f : Value} {x : Sem Value} {y : Bool × Sem Value} {rest : List (Bool × Sem Value)} {Q : Args → Shared → Prop}
    (h : wpAny M A (spliced ((true, x) :: y :: rest)) (fun vs s' => Q ⟨vs, []⟩ s') E s) : wpAny M A (evalArgs f true ((true, x) :: y :: rest) []) Q E s := by
  unfold evalArgs
  show wpAny M A (spliced ((true, x) :: y :: rest) >>= _) Q E s
  refine wpAny_bind (wpAny_mono h (fun vs s' h' => ?_) fun _ _ z => z)
  refine wpAny_holding ?_
  exact wpAny_bind (wpAny_pure (wpAny_bind (wpAny_pure (wpAny_pure h'))))
end
/-- C(*e) -/
def tMakeS (K : PySem.W.Frag) (C : Addr) (sp : Sp) (E : XK) (te : TE) : TE := fun σ H Q => te σ H fun y H1 => ∃ a xs, y = .ref a ∧ (SqT K H1 a xs ∨ SqL K H1 a xs) ∧
  ∀ x dx, H1 x = none → H1 dx = none → dx ≠ x → sp (V.ref x :: xs) (upd (upd H1 dx (.own x)) x (.ins C dx [])) (fun v H2 => v = .non ∧ Q (.ref x) H2) E
section
variable {X : Cx} {CX : CXT} {k : Nat} {f C : Addr} {sp : Sp} {E : XK} {x : Str} {e e2 : Expr} {te : TE} {t : TA} {p sp_ pos : Pos}
theorem pe_makeS (M : Mk X.K C f) (F : FnR X.prog X.w X.K X.mg X.base CX k f sp) (hr : Room (k + 1) X.A) (hg : Gl X x) (hm : X.mg x = some (.ref C)) (hx : Passes CX X E) (he : PE X e te) (hdb : (x == ("__debug__" : Str)) = false := by decide)
    (hst : starEach [.Starred e sp_] X.env = [(true, eval e X.env)] := by rfl) : PE X (.Call (.Name x p) [.Starred e sp_] [] pos) (tMakeS X.K C sp E te) := by
  refine ⟨fun pins s σ H Q I h => ?_⟩
  refine wpAny_Call_Name_kw (ld_glob I hg hm ?_ hdb)
  refine PySem.W.callWith_S (h₀ := X.base) I.ok.mod.kin M.kp (thn (he.run pins s σ H _ I h) fun v s1 ⟨y, H1, I1, ry, a, xs, ey, hxs, q⟩ => ?_) hst
  subst ey
  obtain rfl : v = Value.ref a := ry
  exact star_any I1 hxs fun us s2 I2 rv => ⟨I2.kIn, run_makeR M F hr hx I2 rv q⟩
/-- C(*e, f): the arguments by PA (pa_star ahead) -/
theorem pe_makeS2 (M : Mk X.K C f) (F : FnR X.prog X.w X.K X.mg X.base CX k f sp) (hr : Room (k + 1) X.A) (hg : Gl X x) (hm : X.mg x = some (.ref C)) (hx : Passes CX X E) (ha : PA X [.Starred e sp_, e2] t) (hdb : (x == ("__debug__" : Str)) = false := by decide)
    (hst : starEach [.Starred e sp_, e2] X.env = [(true, eval e X.env), (false, eval e2 X.env)] := by rfl) : PE X (.Call (.Name x p) [.Starred e sp_, e2] [] pos) (tMakeR C sp E t) := by
  refine ⟨fun pins s σ H Q I h => ?_⟩
  refine wpAny_Call_Name_kw (ld_glob I hg hm ?_ hdb)
  have ha2 := ha.run pos pins s σ H _ I h
  rw [hst] at ha2 ⊢
  refine PySem.W.ks_call rfl (PySem.W.keeps_K M.kp) (evalArgs_st2 (thn ha2 fun us s1 ⟨vs, H1, I1, r, q⟩ => ⟨I1.kIn, ?_⟩))
  exact run_makeR M F hr hx I1 r q
end
end U
/-! ## {**a, k: v} -/
namespace U
open PySem PySem.Spec PyProof.Rows L2
/-- {**a, k: v}: the new dict is empty while a is asked, holds a's pairs while k and v are asked -/
def tDStar (ta tk tv : TE) : TE := fun σ H Q => ∀ d, H d = none → ta σ (upd H d (.dK [])) fun z H1 => ∃ (a : Addr) (kvs : List (Key × V)), z = .ref a ∧ a ≠ d ∧ Rd H1 a (.dK kvs) ∧ kvs.length ≤ 1000 ∧ H1 d = some (.dK []) ∧
  tk σ (upd H1 d (.dK kvs)) fun x H2 => tv σ H2 fun y H3 => ∃ key : Key, x = kV key ∧ H3 d = some (.dK kvs) ∧ Q (.ref d) (upd H3 d (.dK (putK kvs key y)))
section
variable {X : Cx} {pos : Pos} {ae ke ve : Expr} {ta tk tv : TE}
theorem nd_keys {P : Program} {w : World} {h : Heap} {a : Addr} {ws : List (Key × Value)} (hd : h.DictOf (mixKind P w) a ws) : (ws.map (·.1)).Nodup := by
  obtain ⟨_, _, _, _, _, _, _, _, hn⟩ := hd
  exact hn
theorem pe_dstar (ha : PE X ae ta) (hk : PE X ke tk) (hv : PE X ve tv) : PE X (.Dict [none, some ke] [ae, ve] pos) (tDStar ta tk tv) := by
  refine ⟨fun pins s σ H Q I h => ?_⟩
  rw [arm_eval_Dict]
  refine wpAny_bind (wpAny_standAt ?_)
  unfold dictDisplay
  have e : (evalEachOpt [none, some ke] X.env).zip (List.map (fun v => do let x ← v; standAt pos; pure x) (evalEach [ae, ve] X.env)) =
    [(none, do let x ← eval ae X.env; standAt pos; pure x), (some (eval ke X.env), do let x ← eval ve X.env; standAt pos; pure x)] := rfl
  rw [e]
  dsimp only
  refine wpAny_bind ?_
  rw [List.forIn_cons]
  refine wpAny_bind ?_
  refine wpAny_bind (wpAny_pure ?_)
  refine wpAny_bind (wpAny_alloc ?_)
  have hn := I.hok.fresh (Nat.le_refl s.heap.objs.size)
  have I1 := I.laid (a := s.heap.objs.size) (o := .dK []) (h' := s.heap.push { cls := .type "dict", data := .dict #[] }) (t' := s.toks) (fun _ _ q => Heap.get?_push_of_some _ q) (Nat.le_refl _) (dk_empty s.heap I.big)
  have h1 := h _ hn
  generalize s.heap.objs.size = d at hn I1 h1 ⊢
  refine wpAny_bind (wpAny_holding (wpAny_bind (thn (ha.run pins _ σ _ _ I1 h1) fun v s2 ⟨z, H1, I2, rz, a, kvs, ez, hne, hrd, hl, hd, q⟩ => wpAny_bind (wpAny_standAt (wpAny_pure ?_)))))
  subst ez
  cases (show v = Value.ref a from rz)
  obtain ⟨hz, hS, ws, kv, hdict⟩ := hrd.ok I2.hok
  obtain ⟨hz0, hS0, ws0, kv0, hdict0⟩ := dk_of I2.hok hd
  cases kv0
  refine wpAny_bind (wpAny_onRaise (wpAny_tryCatch (wpAny_onRaise (wpAny_holding ?_))))
  have lw : ws.length = kvs.length := (Paired.length kv).symm
  refine merge_pairs (Ne.symm hne) hS hdict0 hdict (by rw [lw]; simpa using hz) (fun z => by cases z) fun h3 d3 a3 sb => ?_
  rw [merged_nil_of_nodup _ (nd_keys hdict)] at d3
  refine wpAny_pure ?_
  have I3 : Inv X pins σ (upd H1 d (.dK kvs)) { s2 with heap := h3 } := d_write (t' := s2.toks) I2 (by rw [hd]; exact True.intro) sb (by
    obtain ⟨q, _, _, hq, _⟩ := d3
    exact ⟨q, hq⟩) (dk_new hz hS0 kv d3)
  dsimp only
  rw [List.forIn_cons]
  refine wpAny_bind ?_
  refine wpAny_pure ?_
  dsimp only
  rw [List.forIn_nil]
  refine wpAny_pure ?_
  refine wpAny_bind ?_
  refine wpAny_bind (wpAny_holding (wpAny_subDict (knd := mixKind X.prog X.w) (by show 1 ≤ 15; decide) ?_))
  have hn3 := I3.hok.fresh (Nat.le_refl _)
  have fp := I3.fpOk (Nat.le_refl _) hn3
  have big : sysModules < h3.objs.size := I3.big
  have I4 := ClX.pin_new (t' := s2.toks) (o := ({ cls := .type "dict", data := .dict #[] } : Obj)) I3 (fun _ _ z => Heap.get?_push_of_some _ z) (Nat.le_refl _) (Heap.get?_push_size h3 rfl) (fun v z => nomatch z)
  dsimp only at fp hn3 I4 ⊢
  generalize h3.objs.size = u at hn3 fp big I4 ⊢
  refine evalPairs_cons (thn (hk.run _ _ σ _ _ I4 q) fun kv1 s5 ⟨x, H2, I5, rx, q5⟩ => wpAny_bind (thn (hv.run _ s5 σ H2 _ I5 q5) fun vv1 s6 ⟨y, H3, I6, ry, key, ex, hd6, q6⟩ => wpAny_bind (wpAny_standAt (wpAny_pure (evalPairs_nil ?_)))))
  subst ex
  have I6u := ClX.unpin I6
  have hd2 := ClX.pin_at I6
  have hun : H3 u = none := ClX.pin_un I6
  refine ⟨[(key, vv1)], ⟨kV_is rx, rfl, True.intro⟩, ⟨_, #[], 0, hd2, ⟨rfl, rfl, rfl⟩, rfl, fun _ he => by simp at he, .nil, by simp⟩, fun h7 d7 sb7 => ?_⟩
  have I7 : Inv X pins σ H3 { s6 with heap := h7, toks := s6.toks + [(kv1, vv1)].length } := I6u.turned (it := u) (fun b o hb ho => (sb7.2 b hb).trans ho) hun fp.2.1 fp.2.2.2.1 fp.2.2.2.2.1 fp.2.2.2.2.2
  obtain ⟨hz6, hS6, ws6, kv6, hdict6⟩ := dk_of I7.hok hd6
  have hdu : d ≠ u := fun z => by
    rw [z, hun] at hd6
    cases hd6
  refine wpAny_bind (wpAny_onRaise (wpAny_holding ?_))
  have m1 : merged ([] : List (Key × Value)) [(key, vv1)] = [(key, vv1)] := rfl
  rw [m1] at d7
  refine merge_pairs (Q := fun _ s' => wpAny _ _ _ _ _ s') hdu (beq_eq_false_iff_ne.mpr (Nat.ne_of_gt big)) hdict6 d7 ?_ (fun z => by cases z) fun h8 d8 a8 sb8 => ?_
  · have l6 : ws6.length = kvs.length := (Paired.length kv6).symm
    rw [sizeLine_eq]
    show ws6.length + 1 ≤ _
    omega
  · have I8 := d_write (a := d) (ob := .dK (putK kvs key y)) (h' := h8) (t' := s6.toks + [(kv1, vv1)].length) I7 (by rw [hd6]; exact True.intro) sb8 (by
      obtain ⟨q, _, _, hq, _⟩ := d8
      exact ⟨q, hq⟩) (dk_new (by
        have h9 := length_putK kvs key y
        rw [sizeLine_eq]
        omega) hS0 (kv6.put key ry) d8)
    exact wpAny_pure (wpAny_pure ⟨.ref d, _, I8, rfl, q6⟩)
end
end U
/-! ## def f(.., **options), called with keywords -/
namespace U
open PySem PySem.Spec PyProof.Rows L2
section
variable {prog : Program} {w : World} {A : Around} {E : Value → Shared → Prop}
theorem nsSet_new {s : Shared} {d : Addr} {kvs : List (Key × Value)} {k : Str} {v : Value} {Q : Unit → Shared → Prop} (hm : s.heap.DictOf (mixKind prog w) d kvs) (hn : (Sum.inr k : Key) ∉ kvs.map (·.1))
    (hQ : ∀ h', h'.DictOf (mixKind prog w) d (kvs ++ [(Sum.inr k, v)]) → Heap.SameBut d s.heap h' → Q () { s with heap := h', toks := s.toks + 1 }) : wpAny (model prog w) A (nsSet d k v) Q E s := by
  obtain ⟨o, es, ep, ho, hc, hd, hk, hp, hnd⟩ := hm
  have hs : ∀ e ∈ es.toList, e.key.isStr k = false := fun e he => by
    obtain ⟨i, hi, eq⟩ := List.mem_iff_getElem.mp he
    have hl : es.toList.length = kvs.length := hp.length
    obtain ⟨⟨k2, v2⟩, hkv⟩ : ∃ kv, kvs[i]? = some kv := ⟨_, List.getElem?_eq_getElem (show i < kvs.length by omega)⟩
    obtain ⟨hkey, _⟩ := hp.get? (e := e) (by rw [List.getElem?_eq_getElem hi, eq]) hkv
    cases q : e.key.isStr k with
    | false => rfl
    | true =>
      rcases keyIs_shape (k := k2) (v := e.key) hkey with ⟨j, t, e1, e2⟩ | ⟨x, t, e1, e2⟩
      · rw [e2] at q
        cases q
      · rw [e2] at q
        have e3 : x = k := eq_of_beq (show (x == k) = true from q)
        rw [e3] at e1
        exact (hn (by rw [← e1]; exact List.mem_map.mpr ⟨_, List.mem_of_getElem? hkv, rfl⟩)).elim
  have hr : ∀ e ∈ es.toList, e.refKey = false := fun e he => by
    obtain ⟨k', hk', _⟩ := hk e (Array.mem_toList_iff.mp he)
    rcases keyIs_shape (k := k') (v := e.key) hk' with ⟨j, t, e1, e2⟩ | ⟨x, t, e1, e2⟩
    · show (match e.key with | .ref _ => true | _ => false) = false
      rw [e2]
    · show (match e.key with | .ref _ => true | _ => false) = false
      rw [e2]
  have e1 : es.toList.any (·.key.isStr k) = false := by
    cases q : es.toList.any (·.key.isStr k) with
    | false => rfl
    | true =>
      obtain ⟨e, he, z⟩ := List.any_eq_true.mp q
      rw [hs e he] at z
      cases z
  have e2 : es.toList.any (·.refKey) = false := by
    cases q : es.toList.any (·.refKey) with
    | false => rfl
    | true =>
      obtain ⟨e, he, z⟩ := List.any_eq_true.mp q
      rw [hr e he] at z
      cases z
  have c : aRefKeyMayBeTheName k es = false := by
    rw [aRefKeyMayBeTheName_at, ← Array.any_toList, ← Array.any_toList, e2, Bool.and_false]
  obtain ⟨oc, od, odt, osl⟩ := o
  obtain ⟨hc1, hc2, hc3⟩ := id hc
  dsimp only at hc1 hc2 hc3 hd
  subst hc1 hc2 hc3 hd
  have ep' : ∀ hsh : Int, Obj.putName k hsh (.str k s.toks) v (⟨.type "dict", none, .dict es ep, #[]⟩ : Obj) = (⟨.type "dict", none, .dict (es.toList ++ [(⟨hsh, .str k s.toks, v⟩ : DictEntry)]).toArray (ep + 1), #[]⟩ : Obj) := by
    intro hsh
    have z := PySem.W.putName_dict k hsh (.str k s.toks) v es.toList ep
    rw [PySem.W.putL_new hs] at z
    have z2 : PySem.W.putN k es.toList ep = ep + 1 := by
      show (if es.toList.any (·.key.isStr k) then ep else ep + 1) = ep + 1
      rw [e1, if_neg Bool.false_ne_true]
    rw [z2] at z
    exact z
  unfold nsSet
  refine wpAny_bind (wpAny_bind (wpAny_askSetting (wpAny_pure (wpAny_bind (wpAny_mkText (wpAny_bind (wpAny_loadPart ho ?_)))))))
  dsimp only
  rw [c]
  refine wpAny_updatePart ho (hQ _ ?_ (Heap.SameBut.update ..))
  have hnew : (keyIs (Sum.inr k) (.str k s.toks)) = true := keyIs_str k s.toks
  refine ⟨_, _, ep + 1, Heap.get?_update_self _ ho (by rw [ep'] <;> rfl), by rw [ep']; exact ⟨rfl, rfl, rfl⟩, by rw [ep'], ?_, ?_, ?_⟩
  · have e5 := KeysOf.push (knd := mixKind prog w) hk (k := Sum.inr k) (key := .str k s.toks) hnew v
    intro e he
    have he2 : e ∈ es.toList ++ [(⟨PyData.keyHash w.params k, .str k s.toks, v⟩ : DictEntry)]  := Array.mem_toList_iff.mpr he
    rcases List.mem_append.mp he2 with h1 | h1
    · exact hk e (Array.mem_toList_iff.mp h1)
    · rw [List.mem_singleton.mp h1]
      exact ⟨Sum.inr k, hnew, rfl⟩
  · have e6 := hp.append (k := Sum.inr k) (key := .str k s.toks) hnew (PyData.keyHash w.params k) v
    exact e6
  · rw [List.map_append, List.nodup_append]
    refine ⟨hnd, by simp, ?_⟩
    intro a ha b hb
    simp only [List.map_cons, List.map_nil, List.mem_singleton] at hb
    subst hb
    exact fun e => hn (e ▸ ha)
theorem ns_fill {d : Addr} {Q : PUnit → Shared → Prop} : ∀ (ex : List (Str × Value)) (s : Shared) (kvs : List (Key × Value)), s.heap.DictOf (mixKind prog w) d kvs → (∀ x ∈ ex, (Sum.inr x.1 : Key) ∉ kvs.map (·.1)) → (ex.map (·.1)).Nodup →
    (∀ h' tk, h'.DictOf (mixKind prog w) d (kvs ++ ex.map fun x => (Sum.inr x.1, x.2)) → Heap.SameBut d s.heap h' → Q ⟨⟩ { s with heap := h', toks := tk }) →
    wpAny (model prog w) A (forIn ex PUnit.unit fun x _ => (nsSet d x.1 x.2 >>= fun _ => pure (ForInStep.yield PUnit.unit))) Q E s
  | [], s, kvs, hm, _, _, hQ => by
    rw [List.forIn_nil]
    exact wpAny_pure (hQ s.heap s.toks (by simpa using hm) (Heap.SameBut.refl _ _))
  | x :: r, s, kvs, hm, hx, hn, hQ => by
    obtain ⟨hn1, hn2⟩ := List.nodup_cons.mp (show (x.1 :: r.map (·.1)).Nodup from hn)
    rw [List.forIn_cons]
    refine wpAny_bind (wpAny_bind (nsSet_new hm (hx x (.head _)) fun h' hm' sb => wpAny_pure ?_))
    show wpAny (model prog w) A (forIn r PUnit.unit fun x _ => (nsSet d x.1 x.2 >>= fun _ => pure (ForInStep.yield PUnit.unit))) Q E { s with heap := h', toks := s.toks + 1 }
    refine ns_fill r { s with heap := h', toks := s.toks + 1 } _ hm' (fun y hy hmem => ?_) hn2 fun h'' tk hm'' sb2 => hQ h'' tk ?_ (sb.trans sb2)
    · rw [List.map_append] at hmem
      rcases List.mem_append.mp hmem with h1 | h1
      · exact hx y (.tail _ hy) h1
      · have h2 : (Sum.inr y.1 : Key) = Sum.inr x.1 := List.mem_singleton.mp h1
        exact hn1 (by rw [← Sum.inr.inj h2]; exact List.mem_map_of_mem hy)
    · rw [List.append_assoc] at hm''
      exact hm''
end
end U
/-! ## def f(.., **options), called with keywords: the rules -/
namespace U
open PySem PySem.Spec PyProof.Rows L2 StX
theorem KV.ofZip : ∀ {ks : List Str} {zs : List V} {ws : List Value}, Vals zs ws → KV ((ks.map Sum.inr : List Key).zip zs) ((ks.map Sum.inr : List Key).zip ws)
  | [], _, _, _ => .nil
  | _ :: _, _, _, .nil => .nil
  | _ :: _, _, _, .cons a r => .cons ⟨rfl, a⟩ (KV.ofZip r)
/-- a promise of a def that is called with keywords ks -/
def FnKw (P : Program) (w : World) (K : PySem.W.Frag) (mg : Str → Option Value) (base : Heap) (CX : CXT) (k : Nat) (f : Addr) (ks : List Str) (sp : List V → List V → Hp → VK → XK → Prop) : Prop :=
  ∀ (A : Around) (outer : List Env) (s : Shared) (H : Hp) (us ws : List Value) (vs zs : List V) (Q : VK) (E : XK), Room k A → Env0 P w K mg base A outer s H → Vals vs us → Vals zs ws → zs.length = ks.length → sp vs zs H Q E →
    codeAny (model P w) A (.call (.ref f) ⟨us, ks.zip ws⟩) (CR CX outer P w H s Q E) s
section
variable {P : Program} {w : World} {K : PySem.W.Frag} {mg : Str → Option Value} {base : Heap} {A : Around} {outer : List Env} {s : Shared} {H : Hp}
theorem env0_laid2 {h2 : Heap} {tk : Nat} {u : HO} (e0 : Env0 P w K mg base A outer s H) (kp : ∀ b x, s.heap.get? b = some x → h2.get? b = some x) (sz : s.heap.objs.size ≤ h2.objs.size) (new : ObjOk P w (upd H s.heap.objs.size u) h2 s.heap.objs.size u) :
    Env0 P w K mg base A outer { s with heap := h2, toks := tk } (upd H s.heap.objs.size u) := by
  refine ⟨e0.frames, e0.mod, fun b x e => ⟨kp b x (e0.bs b x e).1, ?_⟩, Nat.le_trans e0.bsz sz, Heap.FunFrames.of_keeps (fun b x e _ => ⟨x, kp b x e, rfl⟩) e0.funs, fun b hb => ?_, e0.hok.laid kp (Nat.le_refl _) new, e0.bare⟩
  · rw [upd_ne (Nat.ne_of_lt (Heap.lt_size (e0.bs b x e).1))]
    exact (e0.bs b x e).2
  · obtain ⟨_, x, hx, _⟩ := e0.funs.mem hb
    rw [upd_ne (Nat.ne_of_lt (Heap.lt_size hx))]
    exact e0.frf b hb
end
section
variable {CX : CXT} {P : Program} {w : World} {K : PySem.W.Frag} {mg : Str → Option Value} {base : Heap} {k : Nat} {f : Addr} {name qual : Str} {params : Arguments} {body : List Stmt} {scope : Scope} {dV kV doc pm cdv ct oc : Value} {an od : Option Addr}
  {osl : Array (Option Value)} {N ps ks : List Str} {sp : Sp}
/-- def f(a, .., **d), called with just so many values and with keywords ks that are no parameters -/
theorem fn_kwargs {pd : Str} (lk : K.lookup f = some ⟨oc, od, .func (PySem.W.fnOf name qual params body scope dV kV doc pm an cdv ct), osl⟩) (hcd : PySem.W.codeIn K cdv qual = true) (S : FnScope N (ps ++ [pd]) scope) (hCX : CXUp CX) (hks : ks.Nodup) (hkz : ks.length ≤ 1000)
    (hb : ∀ us ws : List Value, us.length = ps.length → ws.length = ks.length → bindArgs (PySem.W.fnOf name qual params body scope dV kV doc pm an cdv ct) ⟨us, ks.zip ws⟩ =
      ((alloc ({ cls := .type "dict", data := .dict #[] } : Obj) : Sem Addr) >>= fun d => (forIn (ks.zip ws) PUnit.unit fun x _ => (nsSet d x.1 x.2 >>= fun _ => pure (ForInStep.yield PUnit.unit))) >>= fun _ => pure (ps.zip us ++ [(pd, Value.ref d)])))
    (hbody : ∀ (A : Around) (outer : List Env) (s : Shared) (H : Hp) (vs : List V) (Q : VK) (E : XK), Room k (A.deeper (envOfC qual scope s.heap.objs.size f cdv)) → sp vs H Q E →
      ∃ t, PSs (cxOf CX P w K mg base N qual scope f cdv A outer s H E) body t ∧ t { nx := fun _ H' => Q .non H', rt := Q } (start N vs) H) :
    FnKw P w K mg base CX (k + 1) f ks (fun vs zs H Q E => vs.length = ps.length ∧ ∀ d, H d = Option.none → sp (vs ++ [V.ref d]) (upd H d (.dK ((ks.map Sum.inr : List Key).zip zs))) Q E) := by
  intro A outer s H us ws vs zs Q E hr e0 r rz hlz hsp
  obtain ⟨hl, hq⟩ := hsp
  have hn : H s.heap.objs.size = Option.none := e0.hok.fresh (Nat.le_refl _)
  have hl1 : us.length = ps.length := by rw [← r.length]; exact hl
  have hl2 : ws.length = ks.length := by rw [← rz.length]; exact hlz
  have big := env0_big e0
  refine run_bnd lk hcd S hr e0 (G := fun xs H2 => ∃ d, H d = Option.none ∧ xs = vs ++ [V.ref d] ∧ H2 = upd H d (.dK ((ks.map Sum.inr : List Key).zip zs))) (fun A' Ex Q' h => ?_) fun s2 H2 xs ⟨d, hd, ex, eH⟩ hr' => ?_
  · rw [hb us ws hl1 hl2]
    refine wpAny_bind (wpAny_alloc (wpAny_bind ?_))
    have hd0 : (s.heap.push ({ cls := .type "dict", data := .dict #[] } : Obj)).DictOf (mixKind P w) s.heap.objs.size [] := Heap.DictOf.new s.heap
    have e1 : (ks.zip ws).map (·.1) = ks := by
      rw [← List.unzip_fst, List.unzip_zip_left (by omega)]
    refine ns_fill (ks.zip ws) { s with heap := s.heap.push ({ cls := .type "dict", data := .dict #[] } : Obj) } [] hd0 (fun x _ hm => by simp at hm) (by rw [e1]; exact hks) fun h' tk hd sb => wpAny_pure ?_
    have e2 : ([] ++ (ks.zip ws).map fun x => ((Sum.inr x.1 : Key), x.2)) = (ks.map Sum.inr : List Key).zip ws := by
      rw [List.nil_append, List.zip_map_left]
      rfl
    rw [e2] at hd
    have kp : ∀ b x, s.heap.get? b = some x → h'.get? b = some x := fun b x e => (sb.2 b (Nat.ne_of_lt (Heap.lt_size e))).trans (Heap.get?_push_of_some _ e)
    have hz : ((ks.map Sum.inr : List Key).zip zs).length ≤ sizeLine := by
      rw [List.length_zip, List.length_map, sizeLine_eq]
      omega
    have new : ObjOk P w (upd H s.heap.objs.size (.dK ((ks.map Sum.inr : List Key).zip zs))) h' s.heap.objs.size (.dK ((ks.map Sum.inr : List Key).zip zs)) :=
      ⟨hz, beq_eq_false_iff_ne.mpr (Ne.symm (Nat.ne_of_lt big)), _, KV.ofZip rz, hd⟩
    have szle : s.heap.objs.size ≤ h'.objs.size := by
      have z : h'.objs.size = (s.heap.push ({ cls := .type "dict", data := .dict #[] } : Obj)).objs.size := sb.1
      have z2 : (s.heap.push ({ cls := .type "dict", data := .dict #[] } : Obj)).objs.size = s.heap.objs.size + 1 := Heap.size_push _ _
      omega
    have un : Un (frs outer) [] H (upd H s.heap.objs.size (.dK ((ks.map Sum.inr : List Key).zip zs))) s.heap h' := Un.laid kp (Nat.le_refl _) hn
    have z := h { s with heap := h', toks := tk } _ (vs ++ [V.ref s.heap.objs.size]) (us ++ [Value.ref s.heap.objs.size]) (env0_laid2 (tk := tk) e0 kp szle new) un rfl (fun e s' => hCX outer s H _ _ E e s' un kp rfl) (r.append (.cons rfl .nil))
      (by rw [List.length_append, List.length_append, hl] <;> rfl) ⟨_, hn, rfl, rfl⟩
    rw [List.zip_append hl1.symm] at z
    exact z
  · subst ex eH
    exact hbody A outer s2 _ _ Q E hr' (hq d hd)
end
/-- o.m(k = v, ..), m a def with **d -/
def tMethKw (C : Addr) (m : Str) (n : Nat) (sp : List V → List V → Hp → VK → XK → Prop) (E : XK) (ta : TE) (tk : TA) : TE := fun σ H Q => ta σ H fun x H1 => ∃ a dx fs, x = .ref a ∧ H1 a = some (.ins C dx fs) ∧ fs.lookup m = none ∧
  tk σ H1 fun zs H2 => zs.length = n ∧ sp [x] zs H2 Q E
section
variable {X : Cx} {CX : CXT} {k : Nat} {f C : Addr} {sp : List V → List V → Hp → VK → XK → Prop} {E : XK} {m : Str} {pos apos : Pos} {o : Expr} {kws : List Keyword} {ks : List Str} {ta : TE} {tk : TA}
theorem pe_methKw {pl : Sem Bool} (he : PE X o ta) (c : Cls X.K C) (hm : Meth X.K C m f) (F : FnKw X.prog X.w X.K X.mg X.base CX k f ks sp) (hr : Room k X.A) (hx : Passes CX X E) (hkw : PK X kws tk)
    (hall : (backToKw pos (keywordEach kws X.env)).all (·.1.isSome) = true := by rfl) (hks : (backToKw pos (keywordEach kws X.env)).filterMap (·.1) = ks := by rfl)
    (ht : eval (.Call (.Attribute o m apos) [] kws pos) X.env = (do
      let ov ← eval o X.env
      standAt apos.atName
      let (f, first) ← holding [ov] (getMethod ov m pl)
      callWith pos f first (backTo pos (starEach [] X.env)) (backToKw pos (keywordEach kws X.env))) := by rfl)
    (hpl : ((backTo pos (starEach [] X.env)).any (·.1) || (backToKw pos (keywordEach kws X.env)).any (·.1.isNone)) = false := by rfl) :
    PE X (.Call (.Attribute o m apos) [] kws pos) (tMethKw C m ks.length sp E ta tk) := by
  refine ⟨fun pins s σ H Q I h => ?_⟩
  refine PySem.W.methodCall_KW (pl := pl) (thn (he.run pins s σ H _ I h) fun u s1 ⟨x, H1, I1, rx, a, dx, fs, ex, ea, l, q⟩ => ?_) ht
  subst ex
  obtain rfl : u = Value.ref a := rx
  refine getmeth_ok I1 ea c hm l ?_
  refine PySem.W.callWith_KW0 (first := [.ref a]) (h₀ := X.base) I1.ok.mod.kin hm.kp hall (thn (hkw.run pos pins s1 σ H1 _ I1 q) fun ws s2 ⟨zs, H2, I2, rz, l2, q2⟩ => ⟨I2.kIn, ?_⟩) hpl
  rw [hks]
  refine wpAny_call (codeAny_mono (F X.A X.stack s2 H2 [.ref a] ws [.ref a] zs Q E hr I2.env0 (.cons rfl .nil) rz l2 q2) fun r s' hq => ?_)
  cases r with
  | error e => exact hx pins σ H2 s2 e s' I2 hq
  | ok fl =>
    cases fl with
    | ret u => exact I2.after hq
    | next => exact False.elim hq
    | brk => exact False.elim hq
    | cont => exact False.elim hq
end
end U
/-! ## d.update(e) -/
namespace U
open PySem PySem.Spec PyProof.Rows L2
def mergeV (kvs more : List (Key × V)) : List (Key × V) := more.foldl (fun acc p => putK acc p.1 p.2) kvs
theorem kv_merge : ∀ {more : List (Key × V)} {ws : List (Key × Value)} {kvs : List (Key × V)} {vs : List (Key × Value)}, KV kvs vs → KV more ws → KV (mergeV kvs more) (merged vs ws)
  | _, _, _, _, r, .nil => r
  | p :: more, q :: ws, kvs, vs, r, .cons ⟨a, b⟩ r2 => by
    have e : KV (putK kvs p.1 p.2) (stored vs q.1 q.2) := by
      have z := L2.KV.put r p.1 b
      rw [a] at z ⊢
      exact z
    show KV (mergeV (putK kvs p.1 p.2) more) (merged (stored vs q.1 q.2) ws)
    exact kv_merge e r2
theorem length_mergeV : ∀ (more kvs : List (Key × V)), (mergeV kvs more).length ≤ kvs.length + more.length
  | [], kvs => Nat.le_refl _
  | p :: more, kvs => by
    have h1 := length_mergeV more (putK kvs p.1 p.2)
    have h2 := length_putK kvs p.1 p.2
    show (mergeV (putK kvs p.1 p.2) more).length ≤ kvs.length + (more.length + 1)
    omega
def rDUpdate : V → List V → Hp → VK → Prop := fun x vs H Q => ∃ (a b : Addr) (kvs more : List (Key × V)), x = .ref a ∧ vs = [.ref b] ∧ a ≠ b ∧ H a = some (.dK kvs) ∧ Rd H b (.dK more) ∧ kvs.length + more.length ≤ sizeLine ∧ Q .non (upd H a (.dK (mergeV kvs more)))
theorem mtd_update {X : Cx} : MtR X "dict.update" rDUpdate := by
  intro pins s σ H x vs v us Q I rx rv h
  obtain ⟨a, b, kvs, more, rfl, rfl, hne, e, e2, hz, q⟩ := h
  obtain rfl : v = Value.ref a := rx
  obtain ⟨u1, rfl, r1⟩ : ∃ u1, us = [u1] ∧ RelV (.ref b) u1 := by
    cases rv with
    | cons r1 r2 =>
      cases r2
      exact ⟨_, rfl, r1⟩
  obtain rfl : u1 = Value.ref b := r1
  obtain ⟨z, hd, ks, rel, dd⟩ := dk_of I.hok e
  obtain ⟨z2, hd2, ws, rel2, dd2⟩ := dk_rd I.hok e2
  refine call_meetsIn PySem.F.slot_dict_update dd.typeIs PySem.F.entry_dict_update (PySem.F.args_dict_update_2 _ _) (meets_dict_update (mixKind X.prog X.w) a b hne hd2)
    ⟨ks, ws, dd, dd2, (by rw [← rel.length, ← Paired.length rel2]; exact hz), fun h' hmm _ hs => ?_⟩
  have he : ∃ q, h'.get? a = some q := let ⟨q, _, _, hq, _⟩ := hmm; ⟨q, hq⟩
  have hl : (mergeV kvs more).length ≤ sizeLine := Nat.le_trans (length_mergeV more kvs) hz
  exact ⟨.non, _, d_write (t' := s.toks) I (by rw [e]; exact True.intro) hs he (dk_new hl hd (kv_merge rel rel2) hmm), rfl, q⟩
section
variable {X : Cx} {o e : Expr} {to te : TE} {apos cpos : Pos}
theorem pe_dupdate (ho : PE X o to) (he : PE X e te) (hbase : attributeBase o "update" X.env (eval o X.env) = eval o X.env := by rfl)
    (hfew : ((backTo cpos (starEach [e] X.env)).all (fun x => !x.1) && (backToKw cpos (keywordEach [] X.env)).all (fun x => x.1.isSome)
      && decide ([e].length + ([] : List Keyword).length + (if ([] : List Keyword).isEmpty then 0 else 1) < 30)) = true := by rfl)
    (hline : (apos.endLine == cpos.line) = true := by rfl) (hs : starEach [e] X.env = (false, eval e X.env) :: starEach [] X.env := by rfl) :
    PE X (.Call (.Attribute o "update" apos) [e] [] cpos) (tBM X.K "dict" rDUpdate to (tCons te tNil)) :=
  pe_bm PySem.F.plainAttrs_dict PySem.F.slot_dict_update PySem.F.type_dict_update mtd_update ho (pa_cons he pa_nil hs) hbase hfew hline hs
end
end U
/-! ## repr of a list: defs called while no repr is under way -/
namespace U
open PySem PySem.Spec PyProof.Rows L2
/-- as FnOk, for callers while no repr is under way -/
structure FnG (P : Program) (w : World) (K : PySem.W.Frag) (mg : Str → Option Value) (base : Heap) (CX : CXT) (k : Nat) (f : Addr) (fd : FuncData) (ps : List Str) (sp : Sp) : Prop where
  len : ∀ vs H Q E, sp vs H Q E → vs.length = ps.length
  go : ∀ (A : Around) (outer : List Env) (s : Shared) (H : Hp) (args : Args) (us : List Value) (vs : List V) (Q : VK) (E : XK), A.guards = some [] → Room k A → Env0 P w K mg base A outer s H → BindsTo s fd args (ps.zip us) → Vals vs us → sp vs H Q E →
    codeAny (model P w) A (.call (.ref f) args) (CR CX outer P w H s Q E) s
theorem FnG.of {P : Program} {w : World} {K : PySem.W.Frag} {mg : Str → Option Value} {base : Heap} {CX : CXT} {k : Nat} {f : Addr} {fd : FuncData} {ps : List Str} {sp : Sp} (F : FnOk P w K mg base CX k f fd ps sp) : FnG P w K mg base CX k f fd ps sp :=
  ⟨F.len, fun A outer s H args us vs Q E _ => F.run A outer s H args us vs Q E⟩
section
variable {P : Program} {w : World} {K : PySem.W.Frag} {mg : Str → Option Value} {base : Heap} {x qual : Str} {params : Arguments} {body : List Stmt} {scope : Scope} {dvs : List V} {kws : List (Str × V)} {f : Addr} {fd : FuncData}
theorem okG {CX : CXT} {N ps : List Str} {k : Nat} {sp : Sp} (F : FunD K x qual params body scope dvs kws f fd) (S : FnScope N ps scope) (len : ∀ vs H Q E, sp vs H Q E → vs.length = ps.length)
    (hbody : ∀ (cdv : Value) (A : Around) (outer : List Env) (s : Shared) (H : Hp) (vs : List V) (Q : VK) (E : XK), A.guards = some [] → Room k (A.deeper (envOfC qual scope s.heap.objs.size f cdv)) → sp vs H Q E →
      ∃ t, PSs (cxOf CX P w K mg base N qual scope f cdv A outer s H E) body t ∧ t { nx := fun _ H' => Q .non H', rt := Q } (start N vs) H) : FnG P w K mg base CX (k + 1) f fd ps sp := by
  obtain ⟨oc, od, dV, kV, doc, pm, an, cdv, ct, osl, rfl, lk, hcd, _, _⟩ := F.ex
  refine ⟨len, fun A outer s H args us vs Q E hA hr e0 hb r hsp => ?_⟩
  have KX : K.In s.heap := e0.mod.kin.keeps fun b o e => (e0.bs b o e).1
  have lim : s.heap.NoLimit := e0.mod.nolimit.keeps fun b o e => (e0.bs b o e).1
  have hl := len _ _ _ _ hsp
  have hkind : ∀ y ∈ ps.zip us, scope.names.lookup y.1 = some .local ∨ (scope.names.lookup y.1 = some .cell ∧ ((cellsFrom (s.heap.objs.size + 1) scope.names []).lookup y.1).isSome = true) := by
    rintro ⟨n, v⟩ hy
    rcases S.par n (List.of_mem_zip hy).1 with q | q
    · exact Or.inl q
    · exact Or.inr ⟨q, PySem.W.cellsFrom_some _ _ _ (Or.inl q)⟩
  refine codeAny_call_function (hr.depth) (KX _ _ lk) rfl (S.co) (S.gen) rfl (PySem.W.codeRec_of KX hcd) (hb _ _ _ _ ?_)
  refine wpAny_newFunctionEnv_cells (S.kind) hkind (fun env he s1 X1 => ?_)
  subst he
  obtain ⟨t, ht, hq⟩ := hbody cdv A outer s H vs Q E hA (hr.deeper _) hsp
  refine ⟨lim.keeps X1.toInCall.keep, codeAny_func (wpAny_mono (ht.run [] s1 (start N vs) H _ (inv_start S hr.hd e0 hl r X1) hq) (fun fl s' hs => ?_) fun _ _ z => z)⟩
  cases fl with
  | ret u => exact let ⟨v, _, H', J, rv, q⟩ := hs; ⟨v, H', J.os, J.bare, J.base, J.hok, rv, q⟩
  | next => exact let ⟨_, H', J, q⟩ := hs; ⟨V.non, H', J.os, J.bare, J.base, J.hok, rfl, q⟩
  | brk => exact let ⟨_, _, _, q⟩ := hs; False.elim q
  | cont => exact let ⟨_, _, _, q⟩ := hs; False.elim q
end
section
variable {X : Cx} {CX : CXT} {k : Nat} {f : Addr} {fd : FuncData} {ps : List Str} {sp : Sp} {E : XK} {x : Str} {p pos : Pos} {e : Expr} {es : List Expr} {t : TA}
/-- x(e, ..), x a def with a promise FnG, no defaults -/
theorem pe_callG (F : FnG X.prog X.w X.K X.mg X.base CX k f fd ps sp) (hA : X.A.guards = some []) (hr : Room k X.A) (hg : Gl X x) (hm : X.mg x = some (.ref f)) (hk : PySem.W.keepIn X.K (.ref f) = true) (hb : Binds X.K fd ps []) (hx : Passes CX X E)
    (ha : PA X (e :: es) t) (hdb : (x == ("__debug__" : Str)) = false := by decide) (he : starEach (e :: es) X.env = (false, eval e X.env) :: starEach es X.env := by rfl) (hpl : (backTo pos (starEach es X.env)).any (·.1) = false := by rfl) :
    PE X (.Call (.Name x p) (e :: es) [] pos) (tCall sp [] E t) := by
  refine ⟨fun pins s σ H Q I h => ?_⟩
  refine wpAny_Call_Name_kw (ld_glob I hg hm ?_ hdb)
  refine PySem.W.callWith_K (h₀ := X.base) I.ok.mod.kin hk (thn (ha.run pos pins s σ H _ I h) fun us s1 ⟨vs, H1, I1, r, q⟩ => ⟨I1.kIn, ?_⟩) he hpl
  have q2 : sp vs H1 Q E := by
    have z : sp (vs ++ []) H1 Q E := q
    rw [List.append_nil] at z
    exact z
  have hl : (us ++ []).length = ps.length := by
    rw [List.append_nil, ← r.length]
    exact F.len _ _ _ _ q2
  have hbs := hb s1 us I1.kIn hl
  rw [List.append_nil] at hbs
  refine wpAny_call (codeAny_mono (F.go X.A X.stack s1 H1 ⟨us, []⟩ us vs Q E hA hr I1.env0 hbs r q2) fun z s' hq => ?_)
  cases z with
  | error e => exact hx pins σ H1 s1 e s' I1 hq
  | ok fl =>
    cases fl with
    | ret u => exact I1.after hq
    | next => exact False.elim hq
    | brk => exact False.elim hq
    | cont => exact False.elim hq
/-- repr([text, number]): the text that the model's own rule shows -/
def shownTI (a : Str) (i : Int) : Str := (PyData.list [.str a, .int i]).shown
def rReprTI (K : PySem.W.Frag) : List V → Hp → VK → Prop := fun xs H Q => ∃ (p : Addr) (a : Str) (i : Int), xs = [.ref p] ∧ SqL K H p [.str a, .int i] ∧ i.natAbs.log2 < 1920 ∧ (shownTI a i).length ≤ sizeLine ∧ Q (.str (shownTI a i)) H
theorem call_reprTI (hA : X.A.guards = some []) (hr : Room 0 X.A) : CallR X (.builtin "repr") (rReprTI X.K) := by
  intro pins s σ H xs us Q I r h
  obtain ⟨p, a, i, rfl, hS, hi, hz, q⟩ := h
  obtain ⟨u, rfl, hu⟩ : ∃ u, us = [u] ∧ RelV (.ref p) u := by
    cases r with
    | cons r1 r2 =>
      cases r2
      exact ⟨_, rfl, r1⟩
  obtain rfl : u = Value.ref p := hu
  obtain ⟨its, rv, ⟨o, n, ho, hc, hd, hsl⟩, _⟩ := I.list hS
  have rd : ∃ as, ReadsAll s.heap its [.str a, .int i] as := by
    cases rv with
    | cons r1 r2 =>
      cases r2 with
      | cons r3 r4 =>
        cases r4
        obtain ⟨t1, e1⟩ := r1
        obtain ⟨t2, e2⟩ := r3
        exact ⟨[] ++ ([] ++ []), by rw [e1, e2]; exact .cons (.str a t1) (.cons (.int i t2) .nil)⟩
  obtain ⟨as, rd⟩ := rd
  have R : Reads s.heap (.ref p) (.list [.str a, .int i]) (p :: as) := .list ho hc hsl (by rw [List.toList_toArray]; exact rd)
  have un := hr.un
  refine repr_of_reads' (h₀ := s.heap) R ?_ (fun z => ?_) hA ?_ (fun _ _ z => z) (fun h' u tk hk => ?_) hz
  · show (true && (decide (i.natAbs.log2 < 1920) && true)) = true
    rw [decide_eq_true hi]
    rfl
  · cases z
  · show X.A.units + ((PyData.list [.str a, .int i]).depth + 1) < cLine
    have hd2 : (PyData.list [.str a, .int i]).depth ≤ 10 := by
      show _ ≤ _
      simp [PyData.depth, PyData.depthAll]
    omega
  · exact ⟨.str (shownTI a i), H, I.kept (t' := tk) hk, ⟨u, rfl⟩, q⟩
end
end U
/-! ## the end for a law whose promise is FnG (no repr under way) -/
namespace U
open PySem PySem.Spec PyProof.Rows L2
theorem law_callG {P : Program} {w : World} {K : PySem.W.Frag} {mg mb : Str → Option Value} {CX : CXT} {k : Nat} {fa a : Addr} {fd : FuncData} {x : Str} {sp : Sp} {s₁ : Shared} {vs : List Value} {ns : List Int}
    (KX : K.In s₁.heap) (hns : s₁.heap.Ns mainGlobals mg) (hb : s₁.heap.Ns builtinsNs mb) (hbb : ∀ x : Str, x ≠ "__name__" → mb x = bootBuiltins x) (hlim : s₁.heap.NoLimit) (hg : s₁.gens = #[])
    (ha : s₁.heap.get? a = some { cls := .type "list", data := .seq vs.toArray }) (hi : IntsAre vs ns) (hl : ns.length ≤ sizeLine) (hr : Room k callerA)
    (F : ∀ base : Heap, K.In base → base.Ns mainGlobals mg → FnG P w K mg base CX k fa fd [x] sp) (hbind : ∀ (s : Shared) (u : Value), BindsTo s fd ⟨[u], []⟩ [(x, u)])
    (hsp : ∀ H : Hp, Only H → SqL K H a (ns.map V.int) → sp [.ref a] H (fun v _ => v = .bl true) fun _ _ _ => False)
    (hCX : ∀ H e s', CX [] H s₁ (fun _ _ _ => False) e s' → False) :
    codeAny (model P w) callerA (.call (.ref fa) ⟨[.ref a], []⟩) (fun r s' => r = .ok (.ret (.bool true)) ∧ OldK s₁.heap s'.heap ∧ s'.os = s₁.os ∧ AllBare s'.gens) s₁ := by
  have rv := vals_ints hi
  have lenV := hi.length
  -- whichever abstract heap stands for the one behind the top: at most the script is tracked in it
  have core (H : Hp) (hO : Only H) (hS : SqL K H a (ns.map V.int)) (hok : HOk P w H s₁.heap) (hA : ∀ b, H b ≠ none → b = a) (hK : H a ≠ none → K.lookup a = none) :
      codeAny (model P w) callerA (.call (.ref fa) ⟨[.ref a], []⟩) (fun r s' => r = .ok (.ret (.bool true)) ∧ OldK s₁.heap s'.heap ∧ s'.os = s₁.os ∧ AllBare s'.gens) s₁ := by
    have noA {b : Addr} {o : Obj} {es : Array DictEntry} {ep : Nat} (e : s₁.heap.get? b = some o) (d : o.data = .dict es ep) : H b = none := by
      by_cases q : H b = none
      · exact q
      · have e' := hA b q
        rw [e', ha] at e
        cases e
        cases (show Data.seq vs.toArray _ = Data.dict es ep from d)
    have nsK {b : Addr} {m : Str → Option Value} : s₁.heap.Ns b m → (hidT s₁.heap H).Ns b m
      | ⟨o, es, ep, e, d, r⟩ => ⟨o, es, ep, hidT_get e (noA e d), d, r⟩
    have hKb : K.In (hidT s₁.heap H) := by
      intro b o e
      refine hidT_get (KX b o e) ?_
      by_cases q : H b = none
      · exact q
      · have e' := hA b q
        rw [e'] at q
        rw [e', hK q] at e
        cases e
    obtain ⟨mc, h1, h2⟩ := hlim
    have hM : Mod K mg (hidT s₁.heap H) := ⟨hKb, nsK hns, ⟨mb, nsK hb, hbb⟩, mc, nsK h1, h2⟩
    have e0 : Env0 P w K mg (hidT s₁.heap H) callerA [] s₁ H :=
      ⟨rfl, hM, fun _ _ e => of_hidT e, Nat.le_of_eq (hidT_size _ _), trivial, fun b z => absurd (show b ∈ ([] : List Addr) from z) (by simp), hok, .of_eq hg⟩
    have run := (F _ hKb (nsK hns)).go callerA [] s₁ H ⟨[.ref a], []⟩ [.ref a] [.ref a] _ _ rfl hr e0 (hbind s₁ (.ref a)) (.cons rfl .nil) (hsp H hO hS)
    refine codeAny_mono run fun r s' h => ?_
    rcases r with e | fl
    · exact (hCX H e s' h).elim
    · cases fl with
      | next => exact h.elim
      | brk => exact h.elim
      | cont => exact h.elim
      | ret u =>
        obtain ⟨v, H', os, bare, un, hok', r', rfl⟩ := h
        obtain rfl : u = Value.bool true := r'
        refine ⟨rfl, OldK.of_keep (fun b o e => ?_), os, bare⟩
        rcases hO b with z | ⟨ob, xs, z⟩
        · exact un.keep b o e z (fun z => absurd (show b ∈ ([] : List Addr) from z) (by simp)) (by simp)
        · obtain ⟨e1, _⟩ := hok b _ z
          obtain ⟨e2, _⟩ := hok' b _ (un.frzs b ob _ z)
          rw [e] at e1
          cases e1
          exact e2
  rcases hk : K.lookup a with _ | o
  · refine core (fun b => if b = a then some (.frz { cls := .type "list", data := .seq vs.toArray } (.lst (ns.map V.int))) else none) (fun b => ?_) (.inl (.inr ⟨{ cls := .type "list", data := .seq vs.toArray }, if_pos rfl⟩)) (fun b u z => ?_) (fun b z => ?_) fun _ => hk
    all_goals by_cases hb : b = a
    · exact Or.inr ⟨_, _, if_pos hb⟩
    · exact Or.inl (if_neg hb)
    · cases (if_pos hb).symm.trans z
      subst hb
      exact ⟨ha, by rw [List.length_map]; exact hl, vs, _, rv, ha⟩
    · cases (if_neg hb).symm.trans z
    · exact hb
    · exact absurd (if_neg hb) z
  · have e := KX a o hk
    rw [ha] at e
    cases e
    exact core (fun _ => none) (fun _ => Or.inl rfl) (.inr ⟨_, vs.toArray, _, hk, rfl, rfl, rfl, by rw [List.size_toArray, lenV]; exact hl, by simpa using rv⟩) (fun b u z => nomatch (show (none : Option HO) = some u from z)) (fun b z => absurd rfl z) fun z => absurd rfl z
theorem walk_ofG {l : PySem.W.OpenLaw} {n k : Nat} {q : Program} {loose : List Str} {XP : (Str → Option Value) → Heap → Prop} {YP : World → Heap → Prop} {d : DefRec} {CX : CXT} {x : Str}
    (hn : l.most = some n) (hn2 : n ≤ sizeLine) (hdf : d.params.defaults = []) (hr : Room k callerA)
    (F : ∀ (w : World) (mg : Str → Option Value) (fa : Addr) (h : Heap), YP w h → h.Ns mainGlobals mg → mg d.name = some (.ref fa) →
      ∃ (K : PySem.W.Frag) (fd : FuncData) (sp : Sp), K.In h ∧ (∀ (s : Shared) (u : Value), BindsTo s fd ⟨[u], []⟩ [(x, u)]) ∧
        (∀ (H : Hp) (a : Addr) (ns : List Int), ns.length ≤ n → (∀ z ∈ ns, Builtin.Int.intBits z ≤ 1048576) → Only H → SqL K H a (ns.map V.int) → sp [.ref a] H (fun v _ => v = .bl true) fun _ _ _ => False) ∧
        ∀ base : Heap, K.In base → base.Ns mainGlobals mg → FnG l.prog w K mg base CX k fa fd [x] sp)
    (hCX : ∀ (H : Hp) (s : Shared) (e : Value) (s' : Shared), CX [] H s (fun _ _ _ => False) e s' → False) :
    PySem.W.WalkO q loose XP YP l.row.toRowW d [] (fun f vs => PySem.call f vs) := by
  refine Att.attach_callB hn hdf fun w s₀ s₁ mg mb fa o pm cd doc a vs ns G Y ho hd hcd hmg hobj hints hlen hbits hg => ?_
  obtain ⟨K, fd, sp, KX, hb, hsp, hF⟩ := F w mg fa _ Y G.T.g hmg
  exact law_callG KX G.T.g G.T.b G.T.builtins G.T.nolimit hg hobj hints (Nat.le_trans hlen hn2) hr hF hb (fun H hO hS => hsp H a ns hlen hbits hO hS) fun H e s' => hCX H s₁ e s'
end U
/-! ## bundles, the base of unchanging things, small tools -/
namespace U
open PySem PySem.Spec PyProof.Rows L2
/-! ### defs by bundles -/
structure Fn (W : Wd) (CX : CXT) (k : Nat) (f : Addr) (ps : List Str) (sp : Sp) : Prop where
  ex : ∃ fd, FnOk W.P W.w W.K W.mg W.base CX k f fd ps sp ∧ Binds W.K fd ps []
  kp : PySem.W.keepIn W.K (.ref f) = true
structure CxIs (X : Cx) (W : Wd) : Prop where
  prog : X.prog = W.P
  w : X.w = W.w
  K : X.K = W.K
  mg : X.mg = W.mg
  base : X.base = W.base
section
variable {W : Wd} {X : Cx} {x m : Str} {k j : Nat} {f C p' : Addr} {ps : List Str} {sp : Sp} {p pos apos : Pos} {e o : Expr} {es : List Expr} {t : TA} {to : TE} {pl : Sem Bool}
theorem u_call (F : Fn W CX0 k f ps sp) (hm : W.mg x = some (.ref f)) (hr : Room j X.A) (ha : PA X (e :: es) t) (hx : CxIs X W := by exact ⟨rfl, rfl, rfl, rfl, rfl⟩) (hk : k ≤ j := by decide) (hg : Gl X x := by rfl) (hdb : (x == ("__debug__" : Str)) = false := by decide)
    (he : starEach (e :: es) X.env = (false, eval e X.env) :: starEach es X.env := by rfl) (hpl : (backTo pos (starEach es X.env)).any (·.1) = false := by rfl) :
    PE X (.Call (.Name x p) (e :: es) [] pos) (tCall sp [] E0 t) := by
  obtain ⟨fd, F1, F4⟩ := F.ex
  have F3 := F.kp
  obtain ⟨a1, a2, a3, a4, a5⟩ := hx
  rw [← a1, ← a2, ← a3, ← a4, ← a5] at F1
  rw [← a4] at hm
  rw [← a3] at F3 F4
  exact pe_call F1 (hr.mono hk) hg hm F3 F4 .nil pass0 ha hdb he hpl
theorem u_call0 (F : Fn W CX0 k f ps sp) (hm : W.mg x = some (.ref f)) (hr : Room j X.A) (hx : CxIs X W := by exact ⟨rfl, rfl, rfl, rfl, rfl⟩) (hk : k ≤ j := by decide) (hg : Gl X x := by rfl) (hdb : (x == ("__debug__" : Str)) = false := by decide) :
    PE X (.Call (.Name x p) [] [] pos) (tCall sp [] E0 tNil) := by
  obtain ⟨fd, F1, F4⟩ := F.ex
  have F3 := F.kp
  obtain ⟨a1, a2, a3, a4, a5⟩ := hx
  rw [← a1, ← a2, ← a3, ← a4, ← a5] at F1
  rw [← a4] at hm
  rw [← a3] at F3 F4
  exact pe_call0 F1 (hr.mono hk) hg hm F3 F4 .nil pass0 hdb
theorem u_meth (F : Fn W CX0 k f ps sp) (c : Cls W.K C) (hm : Meth W.K C m f) (hr : Room j X.A) (ho : PE X o to) (ha : PA X (e :: es) t) (hx : CxIs X W := by exact ⟨rfl, rfl, rfl, rfl, rfl⟩) (hk : k ≤ j := by decide)
    (hst : starEach (e :: es) X.env = (false, eval e X.env) :: starEach es X.env := by rfl) (hpl : (backTo pos (starEach es X.env)).any (·.1) = false := by rfl)
    (ht : eval (.Call (.Attribute o m apos) (e :: es) [] pos) X.env = (do
      let ov ← eval o X.env
      standAt apos.atName
      let (f, first) ← holding [ov] (getMethod ov m pl)
      callWith pos f first (backTo pos (starEach (e :: es) X.env)) (backToKw pos (keywordEach [] X.env))) := by rfl) :
    PE X (.Call (.Attribute o m apos) (e :: es) [] pos) (tMeth C m sp [] E0 to t) := by
  obtain ⟨fd, F1, F4⟩ := F.ex
  obtain ⟨a1, a2, a3, a4, a5⟩ := hx
  rw [← a1, ← a2, ← a3, ← a4, ← a5] at F1
  rw [← a3] at F4 c hm
  exact pe_meth ho c hm F1 (hr.mono hk) F4 .nil pass0 ha hst hpl ht
theorem u_meth0 (F : Fn W CX0 k f ps sp) (c : Cls W.K C) (hm : Meth W.K C m f) (hr : Room j X.A) (ho : PE X o to) (hx : CxIs X W := by exact ⟨rfl, rfl, rfl, rfl, rfl⟩) (hk : k ≤ j := by decide)
    (ht : eval (.Call (.Attribute o m apos) [] [] pos) X.env = (do
      let ov ← eval o X.env
      standAt apos.atName
      let (f, first) ← holding [ov] (getMethod ov m pl)
      callWith pos f first (backTo pos (starEach [] X.env)) (backToKw pos (keywordEach [] X.env))) := by rfl) :
    PE X (.Call (.Attribute o m apos) [] [] pos) (tMeth C m sp [] E0 to tNil) := by
  obtain ⟨fd, F1, F4⟩ := F.ex
  obtain ⟨a1, a2, a3, a4, a5⟩ := hx
  rw [← a1, ← a2, ← a3, ← a4, ← a5] at F1
  rw [← a3] at F4 c hm
  exact pe_meth0 ho c hm F1 (hr.mono hk) F4 .nil pass0 ht
theorem u_prop (F : Fn W CX0 k f ps sp) (c : Cls W.K C) (hp : PropOf W.K C m p' f) (hr : Room j X.A) (ho : PE X o to) (hx : CxIs X W := by exact ⟨rfl, rfl, rfl, rfl, rfl⟩) (hk : k + 1 ≤ j := by decide)
    (hab : attributeBase o m X.env (eval o X.env) = eval o X.env := by rfl) : PE X (.Attribute o m pos) (tProp C sp [] E0 to) := by
  obtain ⟨fd, F1, F4⟩ := F.ex
  obtain ⟨a1, a2, a3, a4, a5⟩ := hx
  rw [← a1, ← a2, ← a3, ← a4, ← a5] at F1
  rw [← a3] at F4 c hp
  exact pe_prop ho c hp F1 (hr.mono hk) F4 .nil pass0 hab
theorem u_make (F : Fn W CX0 k f ps sp) (M : Mk W.K C f) (hm : W.mg x = some (.ref C)) (hr : Room j X.A) (ha : PA X (e :: es) t) (hx : CxIs X W := by exact ⟨rfl, rfl, rfl, rfl, rfl⟩) (hk : k + 1 ≤ j := by decide) (hg : Gl X x := by rfl) (hdb : (x == ("__debug__" : Str)) = false := by decide)
    (he : starEach (e :: es) X.env = (false, eval e X.env) :: starEach es X.env := by rfl) (hpl : (backTo pos (starEach es X.env)).any (·.1) = false := by rfl) :
    PE X (.Call (.Name x p) (e :: es) [] pos) (tMake C sp [] E0 t) := by
  obtain ⟨fd, F1, F4⟩ := F.ex
  obtain ⟨a1, a2, a3, a4, a5⟩ := hx
  rw [← a1, ← a2, ← a3, ← a4, ← a5] at F1
  rw [← a4] at hm
  rw [← a3] at F4 M
  exact pe_make M F1 (hr.mono hk) hg hm F4 .nil pass0 ha hdb he hpl
theorem u_make0 (F : Fn W CX0 k f ps sp) (M : Mk W.K C f) (hm : W.mg x = some (.ref C)) (hr : Room j X.A) (hx : CxIs X W := by exact ⟨rfl, rfl, rfl, rfl, rfl⟩) (hk : k + 1 ≤ j := by decide) (hg : Gl X x := by rfl) (hdb : (x == ("__debug__" : Str)) = false := by decide) :
    PE X (.Call (.Name x p) [] [] pos) (tMake C sp [] E0 tNil) := by
  obtain ⟨fd, F1, F4⟩ := F.ex
  obtain ⟨a1, a2, a3, a4, a5⟩ := hx
  rw [← a1, ← a2, ← a3, ← a4, ← a5] at F1
  rw [← a4] at hm
  rw [← a3] at F4 M
  exact pe_make0 M F1 (hr.mono hk) hg hm F4 .nil pass0 hdb
end
/-! ### the base of unchanging things -/
def Ex (B H : Hp) : Prop := ∀ a o, B a = some o → H a = some o
theorem Ex.refl (H : Hp) : Ex H H := fun _ _ h => h
theorem Ex.trans {A B C : Hp} (x : Ex A B) (y : Ex B C) : Ex A C := fun a o h => y a o (x a o h)
theorem Ex.none {B H : Hp} (x : Ex B H) {a : Addr} (h : H a = Option.none) : B a = Option.none := by
  cases e : B a with
  | none => rfl
  | some o =>
    rw [x a o e] at h
    cases h
theorem Ex.new {B H : Hp} (x : Ex B H) {p : Addr} {o : HO} (h : B p = Option.none) : Ex B (upd H p o) := fun a u e => by
  rw [upd_ne (ne_of_none e h)]
  exact x a u e
theorem Ex.both {B H : Hp} (x : Ex B H) {p : Addr} {o : HO} : Ex (upd B p o) (upd H p o) := fun a u e => by
  by_cases q : a = p
  · rw [q] at e ⊢
    rw [upd_same] at e ⊢
    exact e
  · rw [upd_ne q] at e ⊢
    exact x a u e
theorem Ex.ext {B : Hp} {p : Addr} {o : HO} (h : B p = Option.none) : Ex B (upd B p o) := (Ex.refl B).new h
/-- from (B, H) to (B', H'): what is in the base stays, what is outside S stays, what was tracked does not come into the base -/
structure Stp (S : List Addr) (B H B' H' : Hp) : Prop where
  bb : Ex B B'
  bh : Ex B' H'
  hh : ∀ a o, a ∉ S → H a = some o → H' a = some o
  nb : ∀ a, H a ≠ none → B a = none → B' a = none
theorem Stp.refl {S : List Addr} {B H : Hp} (x : Ex B H) : Stp S B H B H := ⟨Ex.refl B, x, fun _ _ _ h => h, fun _ _ h => h⟩
theorem Stp.trans {S : List Addr} {B H B' H' B2 H2 : Hp} (x : Stp S B H B' H') (y : Stp S B' H' B2 H2) (hS : ∀ a ∈ S, H a ≠ none → H' a ≠ none) : Stp S B H B2 H2 :=
  ⟨x.bb.trans y.bb, y.bh, fun a o n h => y.hh a o n (x.hh a o n h), fun a h n => by
    refine y.nb a ?_ (x.nb a h n)
    by_cases q : a ∈ S
    · exact hS a q h
    · cases e : H a with
      | none => exact absurd e h
      | some o =>
        rw [x.hh a o q e]
        simp⟩
theorem Stp.trans0 {B H B' H' B2 H2 : Hp} (x : Stp [] B H B' H') (y : Stp [] B' H' B2 H2) : Stp [] B H B2 H2 := x.trans y fun a h => absurd h (by simp)
/-- a new thing, not of the base -/
theorem Stp.new {S : List Addr} {B H : Hp} (x : Ex B H) {p : Addr} {o : HO} (h : H p = none) : Stp S B H B (upd H p o) :=
  ⟨Ex.refl B, x.new (x.none h), fun a u _ e => by rw [upd_ne (ne_of_none e h)]; exact e, fun _ _ h => h⟩
/-- a new thing of the base -/
theorem Stp.newB {S : List Addr} {B H : Hp} (x : Ex B H) {p : Addr} {o : HO} (h : H p = none) : Stp S B H (upd B p o) (upd H p o) :=
  ⟨Ex.ext (x.none h), x.both, fun a u _ e => by rw [upd_ne (ne_of_none e h)]; exact e, fun a n e => by
    by_cases q : a = p
    · rw [q] at n
      exact absurd h n
    · rw [upd_ne q]
      exact e⟩
/-- no change of the base: only new things -/
def Gr (H H' : Hp) : Prop := Ex H H'
/-! ### values -/
/-- None, a bool, an int, a text -/
def flatS : V → Bool
  | .non => true
  | .bl _ => true
  | .int _ => true
  | .str _ => true
  | _ => false
def tyn : V → String
  | .non => "NoneType"
  | .bl _ => "bool"
  | .int _ => "int"
  | .str _ => "str"
  | _ => ""
theorem tyx_flat {K : PySem.W.Frag} {H : Hp} {x : V} (h : flatS x = true) : TyX K H x (.type (tyn x)) := by
  cases x with
  | non => exact .base .non
  | bl b => exact .base (.bl b)
  | int i => exact .base (.int i)
  | str s => exact .base (.str s)
  | _ => cases h
def isIntV : V → Bool
  | .int _ => true
  | _ => false
def isStrV : V → Bool
  | .str _ => true
  | _ => false
def isBlV : V → Bool
  | .bl _ => true
  | _ => false
theorem kit_int {K : PySem.W.Frag} {x : V} (h : flatS x = true) : PySem.W.kitOne K (.type (tyn x)) (.type "int") = some (isIntV x || isBlV x) := by
  cases x with
  | non => exact (show PySem.W.kitOne K (.type "NoneType") (.type "int") = some false from kit_ty (by decide +kernel))
  | bl b => exact (show PySem.W.kitOne K (.type "bool") (.type "int") = some true from kit_ty (by decide +kernel))
  | int i => exact (show PySem.W.kitOne K (.type "int") (.type "int") = some true from kit_ty (by decide +kernel))
  | str s => exact (show PySem.W.kitOne K (.type "str") (.type "int") = some false from kit_ty (by decide +kernel))
  | _ => cases h
theorem kit_bool {K : PySem.W.Frag} {x : V} (h : flatS x = true) : PySem.W.kitOne K (.type (tyn x)) (.type "bool") = some (isBlV x) := by
  cases x with
  | non => exact (show PySem.W.kitOne K (.type "NoneType") (.type "bool") = some false from kit_ty (by decide +kernel))
  | bl b => exact (show PySem.W.kitOne K (.type "bool") (.type "bool") = some true from kit_ty (by decide +kernel))
  | int i => exact (show PySem.W.kitOne K (.type "int") (.type "bool") = some false from kit_ty (by decide +kernel))
  | str s => exact (show PySem.W.kitOne K (.type "str") (.type "bool") = some false from kit_ty (by decide +kernel))
  | _ => cases h
theorem kit_str {K : PySem.W.Frag} {x : V} (h : flatS x = true) : PySem.W.kitOne K (.type (tyn x)) (.type "str") = some (isStrV x) := by
  cases x with
  | non => exact (show PySem.W.kitOne K (.type "NoneType") (.type "str") = some false from kit_ty (by decide +kernel))
  | bl b => exact (show PySem.W.kitOne K (.type "bool") (.type "str") = some false from kit_ty (by decide +kernel))
  | int i => exact (show PySem.W.kitOne K (.type "int") (.type "str") = some false from kit_ty (by decide +kernel))
  | str s => exact (show PySem.W.kitOne K (.type "str") (.type "str") = some true from kit_ty (by decide +kernel))
  | _ => cases h
end U
/-! ## lists of texts, slices -/
namespace U
open PySem PySem.Spec PyProof.Rows L2
theorem eqV_str (a b : Str) : eqV (.str a) (.str b) = decide (a = b) := by
  show (a == b) = _
  rw [Bool.eq_iff_iff]
  simp
theorem inV_strs (z : Str) : ∀ l : List Str, inV (.str z) (l.map V.str) = decide (z ∈ l)
  | [] => rfl
  | a :: r => by
    have e := inV_strs z r
    unfold inV at e ⊢
    rw [List.map_cons, List.any_cons, e, eqV_str]
    by_cases h : a = z
    · rw [decide_eq_true h, decide_eq_true (show z ∈ a :: r by rw [h]; exact .head _)]
      rfl
    · rw [decide_eq_false h, Bool.false_or]
      by_cases h2 : z ∈ r
      · rw [decide_eq_true h2, decide_eq_true (List.mem_cons_of_mem _ h2)]
      · rw [decide_eq_false h2, decide_eq_false]
        intro h3
        rcases List.mem_cons.mp h3 with h4 | h4
        · exact h h4.symm
        · exact h2 h4
theorem cut_lo (xs : List V) (i : Nat) : cutV xs none (some (i : Int)) = xs.take i := by
  unfold cutV
  rw [HT.sIx_nat, HT.sIx_none, List.drop_zero, Nat.sub_zero]
  by_cases h : i ≤ xs.length
  · rw [Nat.min_eq_left h]
  · rw [Nat.min_eq_right (by omega), List.take_length, List.take_of_length_le (by omega)]
theorem cut_hi (xs : List V) (i : Nat) : cutV xs (some (i : Int)) none = xs.drop i := by
  unfold cutV
  rw [HT.sIx_nat, HT.sIx_none]
  by_cases h : i ≤ xs.length
  · rw [Nat.min_eq_left h, List.take_of_length_le (by rw [List.length_drop]; omega)]
  · rw [Nat.min_eq_right (by omega), Nat.sub_self, List.take_zero, List.drop_of_length_le (by omega)]
theorem flat_strs (ys : List Str) : (ys.map V.str).all flatV = true := by
  rw [List.all_map, List.all_eq_true]
  intro _ _
  rfl
theorem Ex.more {B H : Hp} (x : Ex B H) {p : Addr} {o : HO} (h : H p = Option.none) : Ex B (upd H p o) := x.new (x.none h)
end U
/-! ## comprehensions by their values -/
namespace U
open PySem PySem.Spec PyProof.Rows L2
theorem stp_set {S : List Addr} {B H B' H' : Hp} {D : Addr} {o u : HO} (x : Stp (D :: S) B H B' H') (hD : H D = some o) (hB : B D = none) : Stp (D :: S) B H B' (upd H' D u) :=
  ⟨x.bb, x.bh.new (x.nb D (by rw [hD]; simp) hB), fun a v n e => by
    rw [upd_ne (fun z => n (by rw [z]; simp))]
    exact x.hh a v n e, x.nb⟩
theorem take_get {α : Type} {ys : List α} {i : Nat} {y : α} (h : ys[i]? = some y) : ys.take i ++ [y] = ys.take (i + 1) := by
  rw [List.take_add_one, h]
  rfl
section
variable {J : It} {n : Nat} {G : Hp → Prop} {Y : Nat → Hp → V → Hp → Prop} {g : TG} {tt : TT} {te : TE} {vs : List Nat} {σ : L2.St} {B H1 : Hp} {D : Addr} {Qd : Hp → Prop}
/-- how it stands ahead of turn i: the list at D has the first i of ys -/
structure LcAt (S : List Addr) (B H1 : Hp) (D : Addr) (ys : List V) (i : Nat) (B' H' : Hp) : Prop where
  st : Stp (D :: S) B (upd H1 D (.lst [])) B' H'
  at_ : H' D = some (.lst (ys.take i))
/-- [te for .. in ..] without a test: its values ys, whatever is laid beside -/
theorem lc_map {S : List Addr} (w : Walk J n G Y) (ys : List V) (hn : ys.length = n) (hz : n ≤ 16777216) (hB : Ex B H1) (hD : H1 D = none) (P : Nat → Hp → Hp → Prop)
    (h0 : P 0 B (upd H1 D (.lst []))) (hG : ∀ i B' H', i ≤ n → LcAt S B H1 D ys i B' H' → P i B' H' → G H')
    (hs : ∀ i x y B' H' H'' (R : V → Hp → Prop) (R' : Hp → Prop), i < n → ys[i]? = some y → LcAt S B H1 D ys i B' H' → P i B' H' → Y i H' x H'' →
      (∀ B4 H4, LcAt S B H1 D ys i B4 H4 → (∀ u, P (i + 1) B4 (upd H4 D u)) → R y H4) → g x (wipe σ vs) H'' fun σ2 H2 => wipe σ2 vs = wipe σ vs ∧ tt σ2 H2 fun b H3 => if b = true then te σ2 H3 R else R' H3)
    (hd : ∀ B' H', LcAt S B H1 D ys n B' H' → P n B' H' → Qd H') :
    ∃ W : Nat → Nat → Hp → Prop, (∃ m, W 0 m (upd H1 D (.lst []))) ∧ ∀ i m H, W i m H →
      (J.stop i H ∧ Qd H) ∨ (J.go i H ∧ ∃ Nx : Hp → Prop, (∀ H', Nx H' → ∃ m', m' < m ∧ W (i + 1) m' H') ∧ ∀ x H', J.yld i H x H' → g x (wipe σ vs) H' fun σ2 H2 => wipe σ2 vs = wipe σ vs ∧ tt σ2 H2 fun b H3 =>
        if b = true then te σ2 H3 fun y H4 => ∃ acc, H4 D = some (.lst acc) ∧ acc.length < sizeLine ∧ Nx (upd H4 D (.lst (acc ++ [y]))) else Nx H3) := by
  have nB : B D = none := hB.none hD
  refine lc_it w (fun i H => ∃ B', LcAt S B H1 D ys i B' H ∧ P i B' H) ⟨B, ⟨Stp.refl (hB.new nB), upd_same⟩, h0⟩ (fun i H hi h => let ⟨B', a, p⟩ := h; hG i B' H hi a p) (fun i x H H' hi h y => ?_) (fun H h => let ⟨B', a, p⟩ := h; hd B' H a p)
  obtain ⟨B', a, p⟩ := h
  have hi2 : i < ys.length := by omega
  have hy : ys[i]? = some ys[i] := by simp [hi2]
  refine hs i x ys[i] B' H H' _ _ hi hy a p y fun B4 H4 a4 p4 => ⟨ys.take i, a4.at_, ?_, B4, ⟨?_, ?_⟩, ?_⟩
  · rw [List.length_take, sizeLine_eq]
    omega
  · exact stp_set a4.st upd_same nB
  · rw [upd_same, take_get hy]
  · exact p4 _
/-- the same where nothing is laid -/
theorem lc_pure (w : Walk J n G Y) (ys : List V) (hn : ys.length = n) (hz : n ≤ 16777216) (hD : H1 D = none)
    (hG : ∀ u, G (upd H1 D u))
    (hs : ∀ i x y u H'' (R : V → Hp → Prop) (R' : Hp → Prop), i < n → ys[i]? = some y → Y i (upd H1 D u) x H'' → R y (upd H1 D u) → g x (wipe σ vs) H'' fun σ2 H2 => wipe σ2 vs = wipe σ vs ∧ tt σ2 H2 fun b H3 => if b = true then te σ2 H3 R else R' H3)
    (hd : Qd (upd H1 D (.lst ys))) :
    ∃ W : Nat → Nat → Hp → Prop, (∃ m, W 0 m (upd H1 D (.lst []))) ∧ ∀ i m H, W i m H →
      (J.stop i H ∧ Qd H) ∨ (J.go i H ∧ ∃ Nx : Hp → Prop, (∀ H', Nx H' → ∃ m', m' < m ∧ W (i + 1) m' H') ∧ ∀ x H', J.yld i H x H' → g x (wipe σ vs) H' fun σ2 H2 => wipe σ2 vs = wipe σ vs ∧ tt σ2 H2 fun b H3 =>
        if b = true then te σ2 H3 fun y H4 => ∃ acc, H4 D = some (.lst acc) ∧ acc.length < sizeLine ∧ Nx (upd H4 D (.lst (acc ++ [y]))) else Nx H3) := by
  refine lc_it w (fun i H => H = upd H1 D (.lst (ys.take i))) (by simp) (fun i H hi h => by rw [h]; exact hG _) (fun i x H H' hi h y => ?_) (fun H h => by rw [h, ← hn, List.take_length]; exact hd)
  subst h
  have hi2 : i < ys.length := by omega
  have hy : ys[i]? = some ys[i] := by simp [hi2]
  refine hs i x ys[i] _ H' _ _ hi hy y ⟨ys.take i, upd_same, ?_, ?_⟩
  · rw [List.length_take, sizeLine_eq]
    omega
  · show upd (upd H1 D (.lst (ys.take i))) D (.lst (ys.take i ++ [ys[i]])) = _
    rw [upd_upd, take_get hy]
/-- [.. for .. in ..] that gives a new thing each turn -/
theorem lc_objs {α : Type} (w : Walk J n G Y) (ks : List α) (hn : ks.length = n) (hz : n ≤ 16777216) (hD : H1 D = none) (R : Addr → α → Hp → Prop)
    (hR : ∀ a k H H' xs, R a k H → H D = some (.lst xs) → (∀ b o, b ≠ D → H b = some o → H' b = some o) → R a k H')
    (hG : ∀ H', Ex H1 H' → G H')
    (hs : ∀ i x k H' H'' (Rq : V → Hp → Prop) (R' : Hp → Prop), i < n → ks[i]? = some k → Ex H1 H' → (∃ xs, H' D = some (.lst xs)) → Y i H' x H'' →
      (∀ a H4, (∀ b o, b ≠ D → H' b = some o → H4 b = some o) → H4 D = H' D → R a k H4 → Rq (.ref a) H4) → g x (wipe σ vs) H'' fun σ2 H2 => wipe σ2 vs = wipe σ vs ∧ tt σ2 H2 fun b H3 => if b = true then te σ2 H3 Rq else R' H3)
    (hd : ∀ H' rs, Ex H1 H' → H' D = some (.lst (rs.map V.ref)) → Paired (fun a k => R a k H') rs ks → Qd H') :
    ∃ W : Nat → Nat → Hp → Prop, (∃ m, W 0 m (upd H1 D (.lst []))) ∧ ∀ i m H, W i m H →
      (J.stop i H ∧ Qd H) ∨ (J.go i H ∧ ∃ Nx : Hp → Prop, (∀ H', Nx H' → ∃ m', m' < m ∧ W (i + 1) m' H') ∧ ∀ x H', J.yld i H x H' → g x (wipe σ vs) H' fun σ2 H2 => wipe σ2 vs = wipe σ vs ∧ tt σ2 H2 fun b H3 =>
        if b = true then te σ2 H3 fun y H4 => ∃ acc, H4 D = some (.lst acc) ∧ acc.length < sizeLine ∧ Nx (upd H4 D (.lst (acc ++ [y]))) else Nx H3) := by
  have snoc : ∀ {S : Addr → α → Prop} {l : List Addr} {m : List α} {a : Addr} {b : α}, Paired S l m → S a b → Paired S (l ++ [a]) (m ++ [b]) := by
    intro S l m a b h1 h2
    induction h1 with
    | nil => exact .cons h2 .nil
    | cons r t ih => exact .cons r ih
  have mono : ∀ {S S' : Addr → α → Prop} (f : ∀ a b, S a b → S' a b) {l : List Addr} {m : List α}, Paired S l m → Paired S' l m := by
    intro S S' f l m h1
    induction h1 with
    | nil => exact .nil
    | cons r t ih => exact .cons (f _ _ r) ih
  refine lc_it w (fun i H => ∃ rs : List Addr, Ex H1 H ∧ H D = some (.lst (rs.map V.ref)) ∧ Paired (fun a k => R a k H) rs (ks.take i)) ⟨[], (Ex.refl H1).new hD, upd_same, by rw [List.take_zero]; exact .nil⟩
    (fun i H _ h => let ⟨_, e, _⟩ := h; hG H e) (fun i x H H' hi h y => ?_) (fun H h => let ⟨rs, e, d, p⟩ := h; hd H rs e d (by rw [← hn, List.take_length] at p; exact p))
  obtain ⟨rs, e, d, p⟩ := h
  have hi2 : i < ks.length := by omega
  have hk : ks[i]? = some ks[i] := by simp [hi2]
  have lr : rs.length = i := by
    have z := p.length
    rw [List.length_take] at z
    omega
  refine hs i x ks[i] H H' _ _ hi hk e ⟨_, d⟩ y fun a H4 e4 d4 r4 => ⟨rs.map V.ref, d4.trans d, ?_, rs ++ [a], ?_, ?_, ?_⟩
  · rw [List.length_map, sizeLine_eq]
    omega
  · intro b o hb
    have nb : b ≠ D := ne_of_none hb hD
    rw [upd_ne nb]
    exact e4 b o nb (e b o hb)
  · rw [upd_same, List.map_append]
    rfl
  · rw [← take_get hk]
    have k4 : ∀ b o, b ≠ D → H4 b = some o → upd H4 D (.lst (rs.map V.ref ++ [.ref a])) b = some o := fun b o nb h => by
      rw [upd_ne nb]
      exact h
    have m1 : Paired (fun b k => R b k (upd H4 D (.lst (rs.map V.ref ++ [.ref a])))) rs (ks.take i) := mono (fun b k h => hR b k H4 _ _ (hR b k H H4 _ h d e4) (d4.trans d) k4) p
    exact snoc m1 (hR a ks[i] H4 _ _ r4 (d4.trans d) k4)
end
end U
/-! ## d != {} -/
namespace U
open PySem PySem.Spec PyProof.Rows L2
section
variable {X : Cx}
/-- a dict beside an empty one -/
def rNeD0 : R2 := fun x y H Q => ∃ a b ks, x = .ref a ∧ y = .ref b ∧ H a = some (.dK ks) ∧ H b = some (.dK []) ∧ Q (.bl (!ks.isEmpty)) H
theorem op_ne_dict0 (hu : X.A.units < cLine) : OpR X (compareOp .NotEq) rNeD0 := by
  intro pins s σ H x y v u Q I rx ry h
  obtain ⟨a, b, ks, rfl, rfl, ea, eb, q⟩ := h
  obtain rfl : v = Value.ref a := rx
  obtain rfl : u = Value.ref b := ry
  obtain ⟨_, ya, va, ra, da⟩ := (show ObjOk X.prog X.w H s.heap a (.dK ks) from I.hok a _ ea)
  obtain ⟨_, yb, vb, rb, db⟩ := (show ObjOk X.prog X.w H s.heap b (.dK []) from I.hok b _ eb)
  have hb : vb = [] := by
    cases rb
    rfl
  subst hb
  have hl : va.length = ks.length := ra.length.symm
  refine PySem.W.keq_ne (knd := mixKind X.prog X.w) (r := true) ya yb da db hu (fun e => ?_) (fin_bl I q ?_)
  · have e2 : va = [] := List.length_eq_zero_iff.mp e
    rw [e2]
    exact .nil
  · cases ks with
    | nil =>
      cases ra
      rfl
    | cons k r =>
      cases ra
      rfl
end
end U
/-! ## xs != [] -/
namespace U
open PySem PySem.Spec PyProof.Rows L2
section
variable {X : Cx}
/-- a list beside an empty one -/
def rNeL0 (K : PySem.W.Frag) : R2 := fun x y H Q => ∃ a b xs, x = .ref a ∧ y = .ref b ∧ SqL K H a xs ∧ SqL K H b [] ∧ Q (.bl (!xs.isEmpty)) H
theorem op_ne_list0 (hu : X.A.units < cLine) : OpR X (compareOp .NotEq) (rNeL0 X.K) := by
  intro pins s σ H x y v u Q I rx ry h
  obtain ⟨a, b, xs, rfl, rfl, ha, hb, q⟩ := h
  obtain rfl : v = Value.ref a := rx
  obtain rfl : u = Value.ref b := ry
  obtain ⟨i1, r1, ⟨o1, n1, ho1, hc1, _, hd1⟩, _⟩ := I.list ha
  obtain ⟨i2, r2, ⟨o2, n2, ho2, hc2, _, hd2⟩, _⟩ := I.list hb
  have l1 : s.heap.IsList a i1.toArray := ⟨o1, ho1, hc1, n1, hd1⟩
  have l2 : s.heap.IsList b i2.toArray := ⟨o2, ho2, hc2, n2, hd2⟩
  cases r2
  show wpAny _ _ (richCompare .NotEq (.ref a) (.ref b)) _ _ _
  cases xs with
  | nil =>
    cases r1
    exact SeqAt.RcNeAt.lists (e := fun _ => true) l1 l2 rfl hu (fun j h1 => absurd h1 (by simp)) _ _ _ _ ⟨.bl false, H, I, rfl, q⟩
  | cons x r =>
    cases r1
    exact SeqAt.RcNeAt.lists_lengths l1 l2 (by simp) hu _ _ _ _ ⟨.bl true, H, I, rfl, q⟩
end
end U
/-! ## texts cut at one sign -/
namespace U
open PySem PySem.Spec PyProof.Rows L2 TL
theorem spl1_hit {s : Nat} {acc r : List Nat} : spl [s] 0 acc (s :: r) = acc :: spl [s] 0 [] r := by
  rw [spl_hit (by show ((s :: r).take 1 == [s]) = true; simp)]
  rfl
theorem spl1_miss {s c : Nat} {acc r : List Nat} (h : c ≠ s) : spl [s] 0 acc (c :: r) = spl [s] 0 (acc ++ [c]) r := spl_miss (pre_of_head _ _ h)
theorem spl1_ne {s : Nat} : ∀ (L acc : List Nat), spl [s] 0 acc L ≠ []
  | [], acc => by rw [spl_nil]; simp
  | c :: r, acc => by
    by_cases h : c = s
    · rw [h, spl1_hit]
      simp
    · rw [spl1_miss h]
      exact spl1_ne r _
theorem spl1_len {s : Nat} : ∀ (L acc : List Nat), (spl [s] 0 acc L).length ≤ L.length + 1
  | [], acc => by rw [spl_nil]; simp
  | c :: r, acc => by
    by_cases h : c = s
    · rw [h, spl1_hit]
      have := spl1_len (s := s) r []
      simp only [List.length_cons]
      omega
    · rw [spl1_miss h]
      have := spl1_len (s := s) r (acc ++ [c])
      simp only [List.length_cons]
      omega
theorem spl1_mem {s : Nat} : ∀ (L acc : List Nat), ∀ p ∈ spl [s] 0 acc L, p.length ≤ acc.length + L.length ∧ ∀ c ∈ p, c ∈ acc ∨ c ∈ L
  | [], acc => by
    rw [spl_nil]
    intro p hp
    rw [List.mem_singleton.mp hp]
    exact ⟨by simp, fun c h => .inl h⟩
  | c :: r, acc => by
    intro p hp
    by_cases h : c = s
    · rw [h, spl1_hit] at hp
      rcases List.mem_cons.mp hp with z | z
      · rw [z]
        exact ⟨by omega, fun c h => .inl h⟩
      · obtain ⟨i1, i2⟩ := spl1_mem r [] p z
        refine ⟨?_, fun d hd => .inr ?_⟩
        · simp only [List.length_nil, List.length_cons] at i1 ⊢
          omega
        · rcases i2 d hd with z | z
          · cases z
          · exact .tail _ z
    · rw [spl1_miss h] at hp
      obtain ⟨i1, i2⟩ := spl1_mem r (acc ++ [c]) p hp
      refine ⟨?_, fun d hd => ?_⟩
      · simp only [List.length_append, List.length_cons, List.length_nil] at i1 ⊢
        omega
      · rcases i2 d hd with z | z
        · rcases List.mem_append.mp z with z | z
          · exact .inl z
          · rw [List.mem_singleton.mp z]
            exact .inr (.head _)
        · exact .inr (.tail _ z)
theorem spl1_free {s : Nat} : ∀ (L acc : List Nat), s ∉ acc → ∀ p ∈ spl [s] 0 acc L, s ∉ p
  | [], acc, ha => by
    rw [spl_nil]
    intro p hp
    rw [List.mem_singleton.mp hp]
    exact ha
  | c :: r, acc, ha => by
    intro p hp
    by_cases h : c = s
    · rw [h, spl1_hit] at hp
      rcases List.mem_cons.mp hp with z | z
      · rw [z]
        exact ha
      · exact spl1_free r [] (by simp) p z
    · rw [spl1_miss h] at hp
      refine spl1_free r (acc ++ [c]) (fun z => ?_) p hp
      rcases List.mem_append.mp z with z | z
      · exact ha z
      · exact h (List.mem_singleton.mp z).symm
theorem joinL_cons {S p : List Nat} : ∀ {l : List (List Nat)}, l ≠ [] → joinL S (p :: l) = p ++ (S ++ joinL S l)
  | [], h => absurd rfl h
  | _ :: _, _ => rfl
theorem spl1_join {s : Nat} : ∀ (L acc : List Nat), joinL [s] (spl [s] 0 acc L) = acc ++ L
  | [], acc => by rw [spl_nil]; simp [joinL]
  | c :: r, acc => by
    by_cases h : c = s
    · rw [h, spl1_hit, joinL_cons (spl1_ne _ _), spl1_join r []]
      simp
    · rw [spl1_miss h, spl1_join r (acc ++ [c])]
      simp
def SP : Str := Str.ofString " "
def LF : Str := Str.ofString "\n"
theorem tl_SP : tl SP = [32] := by decide +kernel
theorem tl_LF : tl LF = [10] := by decide +kernel
structure Sep (y : Str) (s : Nat) : Prop where
  tl : tl y = [s]
  all : y.cps.all (· < 256) = true
theorem sep_SP : Sep SP 32 := ⟨tl_SP, by decide +kernel⟩
theorem sep_LF : Sep LF 10 := ⟨tl_LF, by decide +kernel⟩
section
variable {y : Str} {s : Nat} (h : Sep y s) (z : Str)
include h
theorem cut_tl : (Txt.split z y).map tl = spl [s] 0 [] (tl z) := by
  rw [split_spl z y (by rw [h.tl]; simp) (kind_ok h.all), h.tl]
theorem cut_ne : Txt.split z y ≠ [] := fun e => by
  have := cut_tl h z
  rw [e] at this
  exact spl1_ne _ _ this.symm
theorem cut_many : (Txt.split z y).length ≤ z.length + 1 := by
  have e := congrArg List.length (cut_tl h z)
  rw [List.length_map] at e
  rw [e, len_tl z]
  exact spl1_len _ _
theorem cut_len : ∀ w ∈ Txt.split z y, w.length ≤ z.length := fun w hw => by
  have hm : tl w ∈ spl [s] 0 [] (tl z) := by
    rw [← cut_tl h z]
    exact List.mem_map_of_mem hw
  have := (spl1_mem _ _ _ hm).1
  rw [len_tl w, len_tl z]
  simpa using this
theorem cut_free : ∀ w ∈ Txt.split z y, s ∉ tl w := fun w hw => by
  have hm : tl w ∈ spl [s] 0 [] (tl z) := by
    rw [← cut_tl h z]
    exact List.mem_map_of_mem hw
  exact spl1_free _ _ (by simp) _ hm
theorem cut_mem : ∀ w ∈ Txt.split z y, ∀ c ∈ tl w, c ∈ tl z := fun w hw c hc => by
  have hm : tl w ∈ spl [s] 0 [] (tl z) := by
    rw [← cut_tl h z]
    exact List.mem_map_of_mem hw
  rcases (spl1_mem _ _ _ hm).2 c hc with q | q
  · cases q
  · exact q
theorem cut_ok (ok : PyData.strOk z = true) : ∀ w ∈ Txt.split z y, PyData.strOk w = true := fun w hw => by
  unfold PyData.strOk at ok ⊢
  rw [← Array.all_toList, List.all_eq_true] at ok ⊢
  exact fun c hc => ok c (cut_mem h z w hw c hc)
theorem cut_join : Str.join y (Txt.split z y) = z := by
  refine ext_tl ?_
  rw [tl_join, cut_tl h z, h.tl, spl1_join]
  rfl
end
end U
/-! ## a caught exception with a dict: isinstance; calls of a def that may raise -/
namespace U
open PySem PySem.Spec PyProof.Rows L2
/-- isinstance(e, c), e the exception that the suite holds, with its dict -/
def rIsE2 (K : PySem.W.Frag) (D a : Addr) (cls : Value) (d : Option Addr) : List V → Hp → VK → Prop := fun xs H Q => ∃ (c : V) (cv : Value) (b : Bool) (dd : Addr) (fs : List (Str × V)), xs = [.ref a, c] ∧ cls = .ref D ∧ d = some dd ∧ H dd = some (.xd fs) ∧
  (∀ u, RelV c u → u = cv) ∧ PySem.W.kitOne K (.ref D) cv = some b ∧ Q (.bl b) H
theorem call_isE2 {X : Cx} {a D : Addr} {cls : Value} {d : Option Addr} {oe : Obj} {pn : List (Addr × Obj)} (C : ExcC X.K D) (hz : Zc cls d oe) (hf : ∃ vs, oe.data = .fields vs) : CallR (X.suite a ((a, oe) :: pn)) (.builtin "isinstance") (rIsE2 X.K D a cls d) := by
  intro pins s σ H xs us Q I r h
  obtain ⟨c, cv, b, dd, fs, rfl, ec, ed, ea, hcv, e, q⟩ := h
  subst ec
  subst ed
  cases r with
  | cons rx rr =>
    cases rr with
    | cons rt rr =>
      cases rr
      cases rx
      have ec := hcv _ rt
      subst ec
      obtain ⟨hget, _⟩ := I.pin (a, oe) (List.mem_append.mpr (.inl List.mem_cons_self))
      obtain ⟨vs, hv⟩ := hf
      have hx : ObjOk X.prog X.w H s.heap dd (.xd fs) := I.hok dd _ ea
      obtain ⟨mA, hns, hr⟩ := hx
      obtain ⟨od, ho, hl⟩ := lookIn_ns hns
      have J : PySem.W.InstAt s.heap a oe D (some od) := ⟨hget, hz.1, by unfold PySem.W.notCls; rw [hv] <;> rfl, by rw [hz.2]; exact ho⟩
      have hcl : (PySem.W.clsIn X.K D).isSome = true := by
        obtain ⟨cd, hc, _⟩ := PySem.W.any_some C.hd
        rw [hc]
        rfl
      exact PySem.W.kia_one (PySem.W.kitx_exc hcl C.hg C.hk C.hs C.ha C.hn C.ht C.hm) I.kIn J e (fun z => nomatch z) fun tk => ⟨.bl b, H, I.kept (t' := tk) fun _ _ z => z, rfl, q⟩
theorem xf_of {K : PySem.W.Frag} {D : Addr} (C : ExcC K D) : XfC K D := ⟨C.hg, C.hk, C.hs, C.hd⟩
section
variable {W : Wd} {X : Cx} {x : Str} {k j : Nat} {f : Addr} {ps : List Str} {sp : Sp} {p pos : Pos} {e : Expr} {es : List Expr} {t tk : TA} {Wx : WX}
/-- f(e, ..), f may raise, in a try -/
theorem u_callS (F : Fn W (L2.CX W.P W.w) k f ps sp) (hm : W.mg x = some (.ref f)) (hr : Room j X.A) (tk : Takes X Wx) (ha : PA X (e :: es) t) (hx : CxIs X W := by exact ⟨rfl, rfl, rfl, rfl, rfl⟩) (hk : k ≤ j := by decide) (hg : Gl X x := by rfl) (hdb : (x == ("__debug__" : Str)) = false := by decide)
    (he : starEach (e :: es) X.env = (false, eval e X.env) :: starEach es X.env := by rfl) (hpl : (backTo pos (starEach es X.env)).any (·.1) = false := by rfl) :
    PE X (.Call (.Name x p) (e :: es) [] pos) (tCallS sp (fun σ cls d H => Wx cls d σ H) t) := by
  obtain ⟨fd, F1, F4⟩ := F.ex
  have F3 := F.kp
  obtain ⟨a1, a2, a3, a4, a5⟩ := hx
  rw [← a1, ← a2, ← a3, ← a4, ← a5] at F1
  rw [← a4] at hm
  rw [← a3] at F3 F4
  exact pe_callS F1 (hr.mono hk) hg hm F3 F4 (fun σ => passAt tk σ) ha hdb he hpl
theorem passF {P : Program} {w : World} : Passes (L2.CX P w) X (fun _ _ _ => False) := fun _ _ _ _ _ _ _ c => by
  obtain ⟨_, _, _, _, _, _, _, _, _, _, _, _, h⟩ := c
  exact h.elim
/-- f(e, ..), f may raise, but not here -/
theorem u_callN (F : Fn W (L2.CX W.P W.w) k f ps sp) (hm : W.mg x = some (.ref f)) (hr : Room j X.A) (ha : PA X (e :: es) t) (hx : CxIs X W := by exact ⟨rfl, rfl, rfl, rfl, rfl⟩) (hk : k ≤ j := by decide) (hg : Gl X x := by rfl) (hdb : (x == ("__debug__" : Str)) = false := by decide)
    (he : starEach (e :: es) X.env = (false, eval e X.env) :: starEach es X.env := by rfl) (hpl : (backTo pos (starEach es X.env)).any (·.1) = false := by rfl) :
    PE X (.Call (.Name x p) (e :: es) [] pos) (tCall sp [] E0 t) := by
  obtain ⟨fd, F1, F4⟩ := F.ex
  have F3 := F.kp
  obtain ⟨a1, a2, a3, a4, a5⟩ := hx
  rw [← a1, ← a2, ← a3, ← a4, ← a5] at F1
  rw [← a4] at hm
  rw [← a3] at F3 F4
  exact pe_call F1 (hr.mono hk) hg hm F3 F4 .nil passF ha hdb he hpl
/-! ### f(k = v), nothing by place -/
/-- the one value goes to the one parameter -/
structure Kw1 (K : PySem.W.Frag) (fd : FuncData) (n : Str) : Prop where
  to : ∀ (s : Shared) (u : Value), K.In s.heap → BindsTo s fd ⟨[], [(n, u)]⟩ [(n, u)]
theorem kw1_of {K : PySem.W.Frag} {x qual : Str} {params : Arguments} {body : List Stmt} {scope : Scope} {kws : List (Str × V)} {f : Addr} {fd : FuncData} {n : Str} (F : FunD K x qual params body scope [] kws f fd)
    (h : ∀ (kV doc pm : Value) (an : Option Addr) (cdv ct : Value) (u : Value), bindArgs (PySem.W.fnOf x qual params body scope .none kV doc pm an cdv ct) ⟨[], [(n, u)]⟩ = pure [(n, u)]) : Kw1 K fd n := by
  obtain ⟨oc, od, dV, kV, doc, pm, an, cdv, ct, osl, rfl, lk, hcd, hD, hK⟩ := F.ex
  rcases hD with ⟨_, rfl⟩ | ⟨e, _⟩
  · exact ⟨fun s u _ => .of_eq (h kV doc pm an cdv ct u)⟩
  · exact absurd rfl e
def tCallK1 (sp : Sp) (tk : TA) : TE := fun σ H Q => tk σ H fun zs H2 => ∃ z, zs = [z] ∧ sp [z] H2 Q E0
theorem pe_callK1 {CX : CXT} {fd : FuncData} {kws : List Keyword} {n : Str} {tk : TA} (F : FnOk X.prog X.w X.K X.mg X.base CX k f fd [n] sp) (hr : Room k X.A) (hg : Gl X x) (hm : X.mg x = some (.ref f)) (hk : PySem.W.keepIn X.K (.ref f) = true) (hb : Kw1 X.K fd n) (hx : Passes CX X E0)
    (hkw : PK X kws tk) (hall : (backToKw pos (keywordEach kws X.env)).all (·.1.isSome) = true := by rfl) (hks : (backToKw pos (keywordEach kws X.env)).filterMap (·.1) = [n] := by rfl)
    (hdb : (x == ("__debug__" : Str)) = false := by decide) (hpl : ((backTo pos (starEach [] X.env)).any (·.1) || (backToKw pos (keywordEach kws X.env)).any (·.1.isNone)) = false := by rfl) :
    PE X (.Call (.Name x p) [] kws pos) (tCallK1 sp tk) := by
  refine ⟨fun pins s σ H Q I h => ?_⟩
  refine wpAny_Call_Name_kw (ld_glob I hg hm ?_ hdb)
  refine PySem.W.callWith_KW0 (h₀ := X.base) I.ok.mod.kin hk hall (thn (hkw.run pos pins s σ H _ I h) fun ws s2 ⟨zs, H2, I2, rz, z, ez, q2⟩ => ⟨I2.kIn, ?_⟩) hpl
  rw [hks]
  subst ez
  obtain ⟨u, rfl, r1⟩ : ∃ u, ws = [u] ∧ RelV z u := by
    cases rz with
    | cons r1 r2 =>
      cases r2
      exact ⟨_, rfl, r1⟩
  have B : BindsTo s2 fd ⟨[], [n].zip [u]⟩ ([n].zip [u]) := hb.to s2 u I2.kIn
  refine wpAny_call (codeAny_mono (F.run X.A X.stack s2 H2 ⟨[], [n].zip [u]⟩ [u] [z] Q E0 hr I2.env0 B (.cons r1 .nil) q2) fun r s' hq => ?_)
  cases r with
  | error e => exact hx pins σ H2 s2 e s' I2 hq
  | ok fl =>
    cases fl with
    | ret u => exact I2.after hq
    | next => exact False.elim hq
    | brk => exact False.elim hq
    | cont => exact False.elim hq
end
end U
/-! ## basics.py -/
namespace U
open PySem PySem.Spec PyProof.Rows L2
section
variable {W : Wd}
theorem sc_is_integer : FnScope ["value"] ["value"] (defScope s_is_integer) := ⟨rfl, rfl, rfl, by decide +kernel, rfl, by decide +kernel, by decide +kernel⟩
def sp_is_integer : Sp := fun vs H Q _ => ∃ v, vs = [v] ∧ flatS v = true ∧ Q (.bl (isIntV v)) H
theorem ok_is_integer (T : Tx W) : Fn W CX0 1 (ga W.K "is_integer") ["value"] sp_is_integer := by
  obtain ⟨fd, F⟩ := T.d_is_integer
  refine ⟨⟨fd, ?_, F.bindsN fun _ _ _ _ _ _ us hl => match us, hl with | [_], _ => rfl⟩, F.kp⟩
  refine F.ok sc_is_integer (fun vs H Q E h => ?_) (fun cdv A outer s H vs Q E hr h => ?_)
  · obtain ⟨v, rfl, _⟩ := h
    rfl
  · obtain ⟨v, rfl, hf, k⟩ := h
    refine ⟨_, PSs.nox (pss_one (ps_ret (pe_and (pe_callB call_isi (by rfl) T.f_isinstance (by decide +kernel) (pa_cons (pv 0) (pa_cons (pe_bltn (v := .ty "int") (by rfl) T.f_int (by decide +kernel) rfl) pa_nil)))
      (pe_one (pe_not (pe_callB call_isi (by rfl) T.f_isinstance (by decide +kernel) (pa_cons (pv 0) (pa_cons (pe_bltn (v := .ty "bool") (by rfl) T.f_bool (by decide +kernel) rfl) pa_nil)))))))), ?_⟩
    refine ⟨_, rfl, _, _, _, _, _, rfl, .ty _, tyx_flat hf, kit_int hf, _, rfl, ?_⟩
    cases v with
    | int i => exact ⟨_, rfl, _, _, _, _, _, rfl, .ty _, tyx_flat hf, kit_bool hf, _, rfl, k⟩
    | bl b => exact ⟨_, rfl, _, _, _, _, _, rfl, .ty _, tyx_flat hf, kit_bool hf, _, rfl, k⟩
    | non => exact k
    | str s => exact k
    | _ => cases hf
theorem sc_is_count : FnScope ["value"] ["value"] (defScope s_is_count) := ⟨rfl, rfl, rfl, by decide +kernel, rfl, by decide +kernel, by decide +kernel⟩
def isCountV : V → Bool
  | .int i => decide (0 ≤ i)
  | _ => false
def sp_is_count : Sp := fun vs H Q _ => ∃ v, vs = [v] ∧ flatS v = true ∧ Q (.bl (isCountV v)) H
theorem ok_is_count (T : Tx W) : Fn W CX0 2 (ga W.K "is_count") ["value"] sp_is_count := by
  obtain ⟨fd, F⟩ := T.d_is_count
  refine ⟨⟨fd, ?_, F.bindsN fun _ _ _ _ _ _ us hl => match us, hl with | [_], _ => rfl⟩, F.kp⟩
  refine F.ok sc_is_count (fun vs H Q E h => ?_) (fun cdv A outer s H vs Q E hr h => ?_)
  · obtain ⟨v, rfl, _⟩ := h
    rfl
  · obtain ⟨v, rfl, hf, k⟩ := h
    refine ⟨_, PSs.nox (pss_one (ps_ret (pe_and (u_call (ok_is_integer T) T.g_is_integer hr (pa_cons (pv 0) pa_nil))
      (pe_one (pe_cmpR op_ge (pv 0) pe_int (nomark _)))))), ?_⟩
    refine ⟨_, rfl, _, rfl, hf, _, rfl, ?_⟩
    cases v with
    | int i => exact ⟨_, rfl, _, _, rfl, rfl, k⟩
    | bl b => exact k
    | non => exact k
    | str s => exact k
    | _ => cases hf
theorem sc_is_count_from : FnScope ["value", "least", "most"] ["value", "least", "most"] (defScope s_is_count_from) := ⟨rfl, rfl, rfl, by decide +kernel, rfl, by decide +kernel, by decide +kernel⟩
def isCountFrom (v : V) (a b : Int) : Bool := match v with
  | .int i => decide (0 ≤ i) && (decide (a ≤ i) && decide (i ≤ b))
  | _ => false
def sp_is_count_from : Sp := fun vs H Q _ => ∃ v a b, vs = [v, .int a, .int b] ∧ flatS v = true ∧ Q (.bl (isCountFrom v a b)) H
theorem ok_is_count_from (T : Tx W) : Fn W CX0 3 (ga W.K "is_count_from") ["value", "least", "most"] sp_is_count_from := by
  obtain ⟨fd, F⟩ := T.d_is_count_from
  refine ⟨⟨fd, ?_, F.bindsN fun _ _ _ _ _ _ us hl => match us, hl with | [_, _, _], _ => rfl⟩, F.kp⟩
  refine F.ok sc_is_count_from (fun vs H Q E h => ?_) (fun cdv A outer s H vs Q E hr h => ?_)
  · obtain ⟨v, a, b, rfl, _⟩ := h
    rfl
  · obtain ⟨v, a, b, rfl, hf, k⟩ := h
    refine ⟨_, PSs.nox (pss_one (ps_ret (pe_and (u_call (ok_is_count T) T.g_is_count hr (pa_cons (pv 0) pa_nil))
      (pe_one (pe_chain op_le op_le (pv 1) (pv 0) (pv 2)))))), ?_⟩
    refine ⟨_, rfl, _, rfl, hf, _, rfl, ?_⟩
    have fin : ∀ q : Bool, isCountV v = q → (if q = true then tChain (rI0 fun i j => .bl (decide (i ≤ j))) (rI0 fun i j => .bl (decide (i ≤ j))) (tVar 1) (tVar 0) (tVar 2) (start ["value", "least", "most"] [v, .int a, .int b]) H Q else Q (.bl false) H) := by
      intro q hq
      cases q with
      | true =>
        cases v with
        | int i =>
          have h0 : decide (0 ≤ i) = true := hq
          rw [if_pos rfl]
          refine ⟨_, rfl, _, rfl, _, _, rfl, rfl, _, rfl, ?_⟩
          have e : isCountFrom (.int i) a b = (decide (a ≤ i) && decide (i ≤ b)) := by
            show (decide (0 ≤ i) && (decide (a ≤ i) && decide (i ≤ b))) = _
            rw [h0, Bool.true_and]
          rw [e] at k
          cases h1 : decide (a ≤ i) with
          | true =>
            rw [h1, Bool.true_and] at k
            rw [if_pos rfl]
            exact ⟨_, rfl, _, _, rfl, rfl, k⟩
          | false =>
            rw [h1, Bool.false_and] at k
            exact k
        | _ => cases hq
      | false =>
        have e : isCountFrom v a b = false := by
          cases v with
          | int i =>
            show (decide (0 ≤ i) && (decide (a ≤ i) && decide (i ≤ b))) = _
            rw [show decide (0 ≤ i) = false from hq, Bool.false_and]
          | _ => rfl
        rw [e] at k
        exact k
    exact fin _ rfl
end
end U
/-! ## basics.py: texts -/
namespace U
open PySem PySem.Spec PyProof.Rows L2
section
variable {W : Wd}
def inT (l : Str) (c : Nat) : Bool := decide (c ∈ l.cps.toList)
def allIn (l z : Str) : Bool := z.cps.toList.all (inT l)
def LETTERS : Str := "abcdefghijklmnopqrstuvwxyz"
def DIGITS : Str := "0123456789"
def isName (z : Str) : Bool := decide (1 ≤ z.length) && (decide (z.length ≤ 8) && allIn LETTERS z)
theorem sc_is_name : FnScope ["value", "sign"] ["value"] (defScope s_is_name) := ⟨rfl, rfl, rfl, by decide +kernel, rfl, by decide +kernel, by decide +kernel⟩
def sp_is_name : Sp := fun vs H Q _ => ∃ z : Str, vs = [.str z] ∧ z.length ≤ 16777216 ∧ ∀ H', Ex H H' → Q (.bl (isName z)) H'
theorem map_all {z l : Str} {bs : List Bool} (h : bs = z.cps.toList.map (inT l)) : bs.all id = allIn l z := by
  rw [h, List.all_map]
  rfl
theorem iteB {c : Bool} {A B : Prop} (h1 : c = true → A) (h2 : c = false → B) : if c = true then A else B := by
  cases c with
  | true => exact iteT (h1 rfl)
  | false => exact iteF (h2 rfl)
theorem ok_is_name (T : Tx W) : Fn W CX0 1 (ga W.K "is_name") ["value"] sp_is_name := by
  obtain ⟨fd, F⟩ := T.d_is_name
  obtain ⟨t1, c1⟩ := T.c_LETTERS
  obtain ⟨t2, c2⟩ := T.c_LONGEST_NAME
  refine ⟨⟨fd, ?_, F.bindsN fun _ _ _ _ _ _ us hl => match us, hl with | [_], _ => rfl⟩, F.kp⟩
  refine F.ok sc_is_name (fun vs H Q E h => ?_) (fun cdv A outer s H vs Q E hr h => ?_)
  · obtain ⟨z, rfl, _⟩ := h
    rfl
  · obtain ⟨z, rfl, hz, k⟩ := h
    refine ⟨_, PSs.nox (pss_cons (ps_if (PW.pt (pw_or (pt_not (pt_val (pe_callB call_isi (by rfl) T.f_isinstance (by decide +kernel) (pa_cons (pv 0) (pa_cons (pe_bltn (v := .ty "str") (by rfl) T.f_str (by decide +kernel) rfl) pa_nil)))))
        (pw_or1 (pt_not (pt_chain op_le op_le pe_int (pe_callB call_len_str (by rfl) T.f_len (by decide +kernel) (pa_cons (pv 0) pa_nil)) (pe_glob (v := .int 8) (by rfl) c2 ⟨_, rfl⟩))))))
        (pss_one (ps_ret pe_bl)) pss_nil)
      (pss_one (ps_ret (pe_callB (cr_all rfl) (by rfl) T.f_all (by decide +kernel) (pa_cons (pe_lc (own := [("sign", 1)]) (g := gName 1) (tt := tYes) rfl sc_is_name.nd (pi_str (pv 0)) (blkOk_by (N := ["value", "sign"]) (sc := defScope s_is_name) (by decide +kernel))
        (fun _ _ _ _ _ => pg_name (i := 1) sc_is_name.nd rfl (Or.inl rfl)) (fun _ _ _ _ _ => pts_nil) (fun _ _ _ _ _ => pe_cmpR op_in_sign (pv 1) (pe_glob (v := .str LETTERS) (by rfl) c1 ⟨_, rfl⟩) rfl)) pa_nil))))), ?_⟩
    refine ⟨_, rfl, _, _, _, _, _, rfl, .ty _, .base (.str z), (show PySem.W.kitOne W.K (.type "str") (.type "str") = some true from kit_ty (by decide +kernel)), _, rfl, ?_⟩
    refine iteF ?_
    have ok1 : ∀ b : Bool, isName z = b → ∀ H', Ex H H' → Q (.bl b) H' := fun b e H' x => by rw [← e]; exact k H' x
    refine ⟨_, rfl, _, rfl, by rw [sizeLine_eq]; exact hz, _, _, rfl, rfl, _, rfl, ?_⟩
    refine iteB (fun h1 => ?_) (fun h1 => ⟨_, rfl, iteT (ok1 false ?_ H (Ex.refl H))⟩)
    · refine ⟨_, _, rfl, rfl, _, rfl, ?_⟩
      refine iteB (c := !_) (fun h2 => ok1 false ?_ H (Ex.refl H)) (fun h2 => ?_)
      · have h3 : ¬ z.length ≤ 8 := fun q => by
          have : decide ((z.length : Int) ≤ 8) = true := decide_eq_true (by omega)
          rw [this] at h2
          cases h2
        show (_ && (decide (z.length ≤ 8) && _)) = false
        rw [decide_eq_false h3, Bool.false_and, Bool.and_false]
      · refine ⟨_, rfl, _, rfl, fun D hD => lc_pure walk_str ((z.cps.toList.map (inT LETTERS)).map V.bl) ?_ ?_ hD (fun _ => True.intro) (fun i x y u H'' R R' hi hy hx r => ?_) ?_⟩
        · simp
        · have := hz
          show z.cps.size ≤ 16777216
          exact this
        · obtain ⟨rfl, c, hc, rfl⟩ := hx
          have ey : y = .bl (inT LETTERS c) := by
            rw [List.getElem?_map, List.getElem?_map] at hy
            have e1 : z.cps.toList[i]? = some c := by simpa using hc
            rw [e1] at hy
            exact (Option.some.inj hy).symm
          subst ey
          exact ⟨rfl, _, rfl, c, _, rfl, rfl, r⟩
        · refine ⟨D, z.cps.toList.map (inT LETTERS), rfl, SqL.of upd_same, ok1 _ ?_ _ ((Ex.refl H).new hD)⟩
          have h3 : decide (z.length ≤ 8) = true := by
            have : decide ((z.length : Int) ≤ 8) = true := by
              cases q : decide ((z.length : Int) ≤ 8) with
              | true => rfl
              | false =>
                rw [q] at h2
                cases h2
            exact decide_eq_true (by have := of_decide_eq_true this; omega)
          have h4 : decide (1 ≤ z.length) = true := decide_eq_true (by have := of_decide_eq_true h1; omega)
          show (decide (1 ≤ z.length) && (decide (z.length ≤ 8) && allIn LETTERS z)) = _
          rw [h3, h4, Bool.true_and, Bool.true_and]
          exact (map_all rfl).symm
    · show (decide (1 ≤ z.length) && _) = false
      have h3 : ¬ 1 ≤ z.length := fun q => by
        have := of_decide_eq_false h1
        omega
      rw [decide_eq_false h3, Bool.false_and]
/-- a text is a count in decimal -/
def isDec (z : Str) : Bool := if z = Str.ofString "" then false else allIn DIGITS z && (decide (z = Str.ofString "0") || decide (z.cps.getD 0 0 ≠ 48))
theorem sc_is_decimal : FnScope ["text", "sign"] ["text"] (defScope s_is_decimal) := ⟨rfl, rfl, rfl, by decide +kernel, rfl, by decide +kernel, by decide +kernel⟩
def sp_is_decimal : Sp := fun vs H Q _ => ∃ z : Str, vs = [.str z] ∧ z.length ≤ 16777216 ∧ ∀ H', Ex H H' → Q (.bl (isDec z)) H'
theorem ok_is_decimal (T : Tx W) : Fn W CX0 1 (ga W.K "is_decimal") ["text"] sp_is_decimal := by
  obtain ⟨fd, F⟩ := T.d_is_decimal
  obtain ⟨t1, c1⟩ := T.c_DIGITS
  refine ⟨⟨fd, ?_, F.bindsN fun _ _ _ _ _ _ us hl => match us, hl with | [_], _ => rfl⟩, F.kp⟩
  refine F.ok sc_is_decimal (fun vs H Q E h => ?_) (fun cdv A outer s H vs Q E hr h => ?_)
  · obtain ⟨z, rfl, _⟩ := h
    rfl
  · obtain ⟨z, rfl, hz, k⟩ := h
    have ok1 : ∀ b : Bool, isDec z = b → ∀ H', Ex H H' → Q (.bl b) H' := fun b e H' x => by rw [← e]; exact k H' x
    refine ⟨_, PSs.nox (pss_cons (ps_if (PW.pt (pw_or (pt_cmpR op_eq (pv 0) pe_str (nomark _))
        (pw_or1 (pt_not (pt_val (pe_callB (cr_all rfl) (by rfl) T.f_all (by decide +kernel) (pa_cons (pe_lc (own := [("sign", 1)]) (g := gName 1) (tt := tYes) rfl sc_is_decimal.nd (pi_str (pv 0)) (blkOk_by (N := ["text", "sign"]) (sc := defScope s_is_decimal) (by decide +kernel))
        (fun _ _ _ _ _ => pg_name (i := 1) sc_is_decimal.nd rfl (Or.inl rfl)) (fun _ _ _ _ _ => pts_nil) (fun _ _ _ _ _ => pe_cmpR op_in_sign (pv 1) (pe_glob (v := .str DIGITS) (by rfl) c1 ⟨_, rfl⟩) rfl)) pa_nil)))))))
        (pss_one (ps_ret pe_bl)) pss_nil)
      (pss_one (ps_ret (pe_or (pe_cmpR op_eq (pv 0) pe_str (nomark _)) (pe_one (pe_cmpR op_ne (pe_item_str (pv 0) pe_int (fun _ _ => rfl)) pe_str (nomark _))))))), ?_⟩
    refine ⟨_, rfl, rfl, _, rfl, ?_⟩
    refine iteB (fun h1 => ok1 false ?_ H (Ex.refl H)) (fun h1 => ?_)
    · have e : z = Str.ofString "" := by
        have := of_decide_eq_true h1
        injection this
      unfold isDec
      rw [if_pos e]
    · have hne : z ≠ Str.ofString "" := fun e => of_decide_eq_false h1 (by rw [e])
      refine ⟨_, rfl, _, rfl, fun D hD => lc_pure walk_str ((z.cps.toList.map (inT DIGITS)).map V.bl) ?_ ?_ hD (fun _ => True.intro) (fun i x y u H'' R R' hi hy hx r => ?_) ?_⟩
      · simp
      · exact hz
      · obtain ⟨rfl, c, hc, rfl⟩ := hx
        have ey : y = .bl (inT DIGITS c) := by
          rw [List.getElem?_map, List.getElem?_map] at hy
          have e1 : z.cps.toList[i]? = some c := by simpa using hc
          rw [e1] at hy
          exact (Option.some.inj hy).symm
        subst ey
        exact ⟨rfl, _, rfl, c, _, rfl, rfl, r⟩
      · refine ⟨D, z.cps.toList.map (inT DIGITS), rfl, SqL.of upd_same, _, rfl, ?_⟩
        have ea : (z.cps.toList.map (inT DIGITS)).all id = allIn DIGITS z := map_all rfl
        rw [ea]
        have ex := (Ex.refl H).new (o := .lst ((z.cps.toList.map (inT DIGITS)).map V.bl)) hD
        have ed : isDec z = (allIn DIGITS z && (decide (z = Str.ofString "0") || decide (z.cps.getD 0 0 ≠ 48))) := by
          unfold isDec
          rw [if_neg hne]
        refine iteB (c := !_) (fun h2 => ok1 false ?_ _ ex) (fun h2 => ?_)
        · have h3 : allIn DIGITS z = false := by
            cases q : allIn DIGITS z with
            | false => rfl
            | true =>
              rw [q] at h2
              cases h2
          rw [ed, h3, Bool.false_and]
        · have h3 : allIn DIGITS z = true := by
            cases q : allIn DIGITS z with
            | true => rfl
            | false =>
              rw [q] at h2
              cases h2
          rw [h3, Bool.true_and] at ed
          refine ⟨_, rfl, rfl, _, rfl, ?_⟩
          have e0 : decide (V.str z = V.str (Str.ofString "0")) = decide (z = Str.ofString "0") := by
            rw [Bool.eq_iff_iff]
            simp
          rw [e0]
          refine iteB (fun h4 => ok1 true ?_ _ ex) (fun h4 => ?_)
          · rw [ed, h4, Bool.true_or]
          · rw [h4, Bool.false_or] at ed
            have h0 : 0 < z.cps.size := by
              rcases Nat.eq_zero_or_pos z.cps.size with q | q
              · exact absurd (by
                  obtain ⟨c⟩ := z
                  have : c = #[] := Array.eq_empty_of_size_eq_zero q
                  rw [this]
                  rfl) hne
              · exact q
            have hg : z.cps[(0 : Int).toNat]? = some (z.cps.getD 0 0) := by
              show z.cps[0]? = some (z.cps.getD 0 0)
              simp [h0]
            refine ⟨_, rfl, z, 0, _, rfl, rfl, by decide, by decide, by
              show (0 : Int) < ((z.cps.size : Nat) : Int)
              omega, hg, rfl, ?_⟩
            have e5 : (!decide (V.str ⟨#[z.cps.getD 0 0]⟩ = V.str (Str.ofString "0"))) = decide (z.cps.getD 0 0 ≠ 48) := by
              have e6 : (V.str ⟨#[z.cps.getD 0 0]⟩ = V.str (Str.ofString "0")) ↔ z.cps.getD 0 0 = 48 := by
                constructor
                · intro q
                  injection q with q
                  have q2 : (⟨#[z.cps.getD 0 0]⟩ : Str) = ⟨#[48]⟩ := q
                  injection q2 with q2
                  have q3 := congrArg Array.toList q2
                  injection q3
                · intro q
                  rw [q]
                  rfl
              by_cases q : z.cps.getD 0 0 = 48
              · rw [decide_eq_true (e6.mpr q), decide_eq_false (fun f => f q)]
                rfl
              · rw [decide_eq_false (fun f => q (e6.mp f)), decide_eq_true q]
                rfl
            rw [e5]
            exact ok1 _ ed _ ex
end
end U
/-! ## fills.py, kinds.py: words, sizes; texts.py: numbers -/
namespace U
open PySem PySem.Spec PyProof.Rows L2
section
variable {W : Wd}
def valT (z : Str) : Int := ((NumText.digitsVal z.cps.toList : Nat) : Int)
theorem isDec_all {z : Str} (h : isDec z = true) : allIn DIGITS z = true ∧ z ≠ Str.ofString "" := by
  unfold isDec at h
  by_cases e : z = Str.ofString ""
  · rw [if_pos e] at h
    cases h
  · rw [if_neg e] at h
    exact ⟨(Bool.and_eq_true_iff.mp h).1, e⟩
theorem digits_in {c : Nat} (h : inT DIGITS c = true) : 48 ≤ c ∧ c ≤ 57 := by
  have h2 : c ∈ DIGITS.cps.toList := of_decide_eq_true h
  have e : DIGITS.cps.toList = [48, 49, 50, 51, 52, 53, 54, 55, 56, 57] := by decide +kernel
  rw [e] at h2
  simp at h2
  omega
theorem ne_cps {z : Str} (h : z ≠ Str.ofString "") : z.cps.toList ≠ [] := fun e => h (by
  obtain ⟨c⟩ := z
  have e2 : c = #[] := by simpa using e
  rw [e2]
  rfl)
theorem int_of_dec {z : Str} (h : isDec z = true) (hl : z.length ≤ 640) : intText? z = some (valT z) := by
  obtain ⟨h1, h2⟩ := isDec_all h
  refine intText_digits (fun c hc => ?_) (ne_cps h2) (by omega)
  have h3 := List.all_eq_true.mp h1 c hc
  exact digits_in h3
theorem sc_number_in : FnScope ["word"] ["word"] (defScope s_number_in) := ⟨rfl, rfl, rfl, by decide +kernel, rfl, by decide +kernel, by decide +kernel⟩
/-- the number that a word tells, up to three digits -/
def numIn (z : Str) : V := if isDec z = true ∧ z.length ≤ 3 then .int (valT z) else .non
def sp_number_in : Sp := fun vs H Q _ => ∃ z : Str, vs = [.str z] ∧ z.length ≤ 16777216 ∧ ∀ H', Ex H H' → Q (numIn z) H'
theorem ok_number_in (T : Tx W) : Fn W CX0 2 (ga W.K "number_in") ["word"] sp_number_in := by
  obtain ⟨fd, F⟩ := T.d_number_in
  obtain ⟨t1, c1⟩ := T.c_LONGEST_NUMBER
  refine ⟨⟨fd, ?_, F.bindsN fun _ _ _ _ _ _ us hl => match us, hl with | [_], _ => rfl⟩, F.kp⟩
  refine F.ok sc_number_in (fun vs H Q E h => ?_) (fun cdv A outer s H vs Q E hr h => ?_)
  · obtain ⟨z, rfl, _⟩ := h
    rfl
  · obtain ⟨z, rfl, hz, k⟩ := h
    refine ⟨_, PSs.nox (pss_cons (ps_if (PW.pt (pw_or (pt_not (pt_val (u_call (ok_is_decimal T) T.g_is_decimal hr (pa_cons (pv 0) pa_nil))))
        (pw_or1 (pt_cmpR op_gt (pe_callB call_len_str (by rfl) T.f_len (by decide +kernel) (pa_cons (pv 0) pa_nil)) (pe_glob (v := .int 3) (by rfl) c1 ⟨_, rfl⟩) (nomark _)))))
        (pss_one (ps_ret pe_non)) pss_nil)
      (pss_one (ps_ret (pe_callTy call_int_str (by rfl) T.f_int (by decide +kernel) (pa_cons (pv 0) pa_nil))))), ?_⟩
    refine ⟨_, rfl, z, rfl, hz, fun H' x => ?_⟩
    refine ⟨_, rfl, ?_⟩
    refine iteB (c := !_) (fun h1 => ?_) (fun h1 => ?_)
    · have e : numIn z = .non := by
        unfold numIn
        rw [if_neg]
        rintro ⟨h2, _⟩
        rw [h2] at h1
        cases h1
      rw [← e]
      exact k H' x
    · have hd : isDec z = true := by
        cases q : isDec z with
        | true => rfl
        | false =>
          rw [q] at h1
          cases h1
      refine ⟨_, rfl, _, rfl, by rw [sizeLine_eq]; exact hz, _, _, rfl, rfl, _, rfl, ?_⟩
      refine iteB (fun h2 => ?_) (fun h2 => ?_)
      · have e : numIn z = .non := by
          unfold numIn
          rw [if_neg]
          rintro ⟨_, h3⟩
          have := of_decide_eq_true h2
          omega
        rw [← e]
        exact k H' x
      · have h3 : z.length ≤ 3 := by
          have := of_decide_eq_false h2
          omega
        refine ⟨_, rfl, z, _, rfl, int_of_dec hd (by omega), by omega, ?_⟩
        have e : numIn z = .int (valT z) := by
          unfold numIn
          rw [if_pos ⟨hd, h3⟩]
        rw [← e]
        exact k H' x
theorem sc_is_group : FnScope ["value"] ["value"] (defScope s_is_group_kinds) := ⟨rfl, rfl, rfl, by decide +kernel, rfl, by decide +kernel, by decide +kernel⟩
def isGroup (z : Str) : Bool := inV (.str z) [.str "whole", .str "float"]
def sp_is_group : Sp := fun vs H Q _ => ∃ z : Str, vs = [.str z] ∧ Q (.bl (isGroup z)) H
theorem ok_is_group (T : Tx W) : Fn W CX0 1 (ga W.K "is_group_kinds") ["value"] sp_is_group := by
  obtain ⟨fd, F⟩ := T.d_is_group_kinds
  refine ⟨⟨fd, ?_, F.bindsN fun _ _ _ _ _ _ us hl => match us, hl with | [_], _ => rfl⟩, F.kp⟩
  refine F.ok sc_is_group (fun vs H Q E h => ?_) (fun cdv A outer s H vs Q E hr h => ?_)
  · obtain ⟨z, rfl, _⟩ := h
    rfl
  · obtain ⟨z, rfl, k⟩ := h
    refine ⟨_, PSs.nox (pss_one (ps_ret (pe_and (pe_callB call_isi (by rfl) T.f_isinstance (by decide +kernel) (pa_cons (pv 0) (pa_cons (pe_bltn (v := .ty "str") (by rfl) T.f_str (by decide +kernel) rfl) pa_nil)))
      (pe_one (pe_cmpR op_in_seq (pv 0) (pe_glob (v := .ref (ga W.K "GROUPS_kinds")) (by rfl) T.g_GROUPS_kinds rfl) rfl))))), ?_⟩
    refine ⟨_, rfl, _, _, _, _, _, rfl, .ty _, .base (.str z), (show PySem.W.kitOne W.K (.type "str") (.type "str") = some true from kit_ty (by decide +kernel)), _, rfl, _, rfl, ?_⟩
    exact ⟨_, _, rfl, .inr (T.t_GROUPS_kinds H), rfl, rfl, k⟩
theorem sc_is_size : FnScope ["value"] ["value"] (defScope s_is_size) := ⟨rfl, rfl, rfl, by decide +kernel, rfl, by decide +kernel, by decide +kernel⟩
def isSize (v : V) : Bool := isIntV v && inV v [.int 1, .int 2, .int 4, .int 8, .int 16]
def sp_is_size : Sp := fun vs H Q _ => ∃ v, vs = [v] ∧ flatS v = true ∧ Q (.bl (isSize v)) H
theorem flatV_of {v : V} (h : flatS v = true) : flatV v = true := by
  cases v <;> first | rfl | cases h
theorem ok_is_size (T : Tx W) : Fn W CX0 2 (ga W.K "is_size") ["value"] sp_is_size := by
  obtain ⟨fd, F⟩ := T.d_is_size
  refine ⟨⟨fd, ?_, F.bindsN fun _ _ _ _ _ _ us hl => match us, hl with | [_], _ => rfl⟩, F.kp⟩
  refine F.ok sc_is_size (fun vs H Q E h => ?_) (fun cdv A outer s H vs Q E hr h => ?_)
  · obtain ⟨v, rfl, _⟩ := h
    rfl
  · obtain ⟨v, rfl, hf, k⟩ := h
    refine ⟨_, PSs.nox (pss_one (ps_ret (pe_and (u_call (ok_is_integer T) T.g_is_integer hr (pa_cons (pv 0) pa_nil))
      (pe_one (pe_cmpR op_in_seq (pv 0) (pe_glob (v := .ref (ga W.K "SIZES")) (by rfl) T.g_SIZES rfl) rfl))))), ?_⟩
    refine ⟨_, rfl, v, rfl, hf, _, rfl, ?_⟩
    refine iteB (fun h1 => ⟨_, rfl, _, _, rfl, .inr (T.t_SIZES H), flatV_of hf, rfl, ?_⟩) (fun h1 => ?_)
    · have e : isSize v = inV v [.int 1, .int 2, .int 4, .int 8, .int 16] := by
        unfold isSize
        rw [h1, Bool.true_and]
      show Q (.bl (inV v [.int 1, .int 2, .int 4, .int 8, .int 16])) H
      rw [← e]
      exact k
    · have e : isSize v = false := by
        unfold isSize
        rw [h1, Bool.false_and]
      rw [← e]
      exact k
theorem sc_is_width : FnScope ["value", "size", "least"] ["value", "size"] (defScope s_is_width) := ⟨rfl, rfl, rfl, by decide +kernel, rfl, by decide +kernel, by decide +kernel⟩
/-- a width of a kind with s bytes -/
def isWidth (v : V) (s : Int) : Bool := match v with
  | .int i => decide ((if s = 16 then 65 else 2) ≤ i) && decide (i ≤ 8 * s)
  | _ => false
def sp_is_width : Sp := fun vs H Q _ => ∃ v s, vs = [v, .int s] ∧ flatS v = true ∧ 0 ≤ s ∧ s ≤ 1000 ∧ Q (.bl (isWidth v s)) H
theorem ok_is_width (T : Tx W) : Fn W CX0 2 (ga W.K "is_width") ["value", "size"] sp_is_width := by
  obtain ⟨fd, F⟩ := T.d_is_width
  obtain ⟨t1, c1⟩ := T.c_DOUBLE_SIZE
  obtain ⟨t2, c2⟩ := T.c_REGISTER_BITS_kinds
  obtain ⟨t3, c3⟩ := T.c_FEWEST_BITS
  refine ⟨⟨fd, ?_, F.bindsN fun _ _ _ _ _ _ us hl => match us, hl with | [_, _], _ => rfl⟩, F.kp⟩
  refine F.ok sc_is_width (fun vs H Q E h => ?_) (fun cdv A outer s H vs Q E hr h => ?_)
  · obtain ⟨v, s, rfl, _⟩ := h
    rfl
  · obtain ⟨v, z, rfl, hf, h0, h1, k⟩ := h
    refine ⟨_, PSs.nox (pss_cons (ps_set (i := 2) sc_is_width.nd rfl (Or.inl rfl) (pe_ifExp (pt_cmpR op_eq (pv 1) (pe_glob (v := .int 16) (by rfl) c1 ⟨_, rfl⟩) (nomark _)) (pe_op op_add (pe_glob (v := .int 64) (by rfl) c2 ⟨_, rfl⟩) pe_int) (pe_glob (v := .int 2) (by rfl) c3 ⟨_, rfl⟩)))
      (pss_one (ps_ret (pe_and (u_call (ok_is_integer T) T.g_is_integer hr (pa_cons (pv 0) pa_nil))
      (pe_one (pe_chain op_le op_le (pv 2) (pv 0) (pe_op op_mul pe_int (pv 1)))))))), ?_⟩
    refine ⟨_, rfl, rfl, _, rfl, ?_⟩
    have tail : ∀ m : Int, m = (if z = 16 then 65 else 2) → tSeq (tRet (tAndV (tCall sp_is_integer [] E0 (tCons (tVar 0) tNil)) (tChain (rI0 fun i j => .bl (decide (i ≤ j))) (rI0 fun i j => .bl (decide (i ≤ j))) (tVar 2) (tVar 0) (tOp (rI CMul fun i j => .int (i * j)) (tC (.int 8)) (tVar 1))))) tNext
        { nx := fun _ H' => Q .non H', rt := Q } [some v, some (.int z), some (.int m)] H := fun m hm => by
      refine ⟨_, rfl, v, rfl, hf, _, rfl, ?_⟩
      cases v with
      | int i =>
        refine ⟨_, rfl, _, rfl, _, _, rfl, rfl, _, rfl, ?_⟩
        have e : isWidth (.int i) z = (decide (m ≤ i) && decide (i ≤ 8 * z)) := by rw [hm]; rfl
        rw [e] at k
        refine iteB (fun h2 => ⟨_, rfl, _, _, rfl, rfl, .inl ⟨by decide, by decide⟩, _, _, rfl, rfl, ?_⟩) (fun h2 => ?_)
        · rw [h2, Bool.true_and] at k
          exact k
        · rw [h2, Bool.false_and] at k
          exact k
      | bl b => exact k
      | non => exact k
      | str s => exact k
      | _ => cases hf
    have e0 : decide (V.int z = V.int 16) = decide (z = 16) := by
      rw [Bool.eq_iff_iff]
      simp
    rw [e0]
    refine iteB (fun h2 => ⟨_, _, rfl, rfl, tail 65 ?_⟩) (fun h2 => tail 2 ?_)
    · rw [if_pos (of_decide_eq_true h2)]
    · rw [if_neg (of_decide_eq_false h2)]
end
end U
/-! ## kinds.py: Kind -/
namespace U
open PySem PySem.Spec PyProof.Rows L2
section
variable {W : Wd}
structure KindD where
  name : Str
  group : Str
  size : Int
  width : Int
  align : Int
def kindF (k : KindD) : List (Str × V) := [("own_name", .str k.name), ("own_group", .str k.group), ("own_size", .int k.size), ("own_width", .int k.width), ("own_align", .int k.align)]
/-- a kind as it must be -/
def KindD.ok (k : KindD) : Bool := isName k.name && (isGroup k.group && (isSize (.int k.size) && (isWidth (.int k.width) k.size && isSize (.int k.align))))
theorem size_cases {v : V} (h : isSize v = true) : v = .int 1 ∨ v = .int 2 ∨ v = .int 4 ∨ v = .int 8 ∨ v = .int 16 := by
  unfold isSize at h
  cases v with
  | int i =>
    have h2 : inV (.int i) [.int 1, .int 2, .int 4, .int 8, .int 16] = true := (He.ba h).2
    have h3 : ((1 == i) || ((2 == i) || ((4 == i) || ((8 == i) || ((16 == i) || false))))) = true := h2
    simp at h3
    rcases h3 with h | h | h | h | h <;> subst h <;> simp
  | _ => exact absurd (He.ba h).1 (by simp [isIntV])
theorem sc_Kind_init : FnScope ["self", "name", "group", "size", "width", "align"] ["self", "name", "group", "size", "width", "align"] (defScope s_Kind___init__) := ⟨rfl, rfl, rfl, by decide +kernel, rfl, by decide +kernel, by decide +kernel⟩
def sp_Kind_init (C : Addr) : Sp := fun vs H Q _ => ∃ (x dx : Addr) (k : KindD), vs = [.ref x, .str k.name, .str k.group, .int k.size, .int k.width, .int k.align] ∧ k.ok = true ∧ k.name.length ≤ 16777216 ∧ H x = some (.ins C dx []) ∧
  ∀ H1, Ex H H1 → Q .non (upd H1 x (.ins C dx (kindF k)))
theorem ok_Kind_init (T : Tx W) : ∃ fd, FnOk W.P W.w W.K W.mg W.base CX0 3 (ca "Kind" "__init__" W.K) fd ["self", "name", "group", "size", "width", "align"] (sp_Kind_init (ga W.K "Kind")) ∧
    (∃ g gV, KBn W.K fd ["self", "name", "group", "size", "width", "align"] 3 ["size", "width", "align"] g gV ∧ gV = fun vs zs => vs ++ zs) := by
  obtain ⟨fd, F⟩ := T.d_Kind___init__
  refine ⟨fd, ?_, ?_⟩
  · refine F.ok sc_Kind_init (fun vs H Q E h => ?_) (fun cdv A outer s H vs Q E hr h => ?_)
    · obtain ⟨x, dx, k, rfl, _⟩ := h
      rfl
    · obtain ⟨x, dx, k, rfl, ok, hz, hx, q⟩ := h
      refine ⟨_, PSs.nox (pss_cons (ps_if (pt_not (pt_val (u_call (ok_is_name T) T.g_is_name hr (pa_cons (pv 1) pa_nil)))) pss_never pss_nil)
        (pss_cons (ps_if (pt_not (pt_val (u_call (ok_is_group T) T.g_is_group_kinds hr (pa_cons (pv 2) pa_nil)))) pss_never pss_nil)
        (pss_cons (ps_if (pt_not (pt_val (u_call (ok_is_size T) T.g_is_size hr (pa_cons (pv 3) pa_nil)))) pss_never pss_nil)
        (pss_cons (ps_if (PW.pt (pw_and (pt_cmpR op_notN (pv 4) pe_non (nomark _)) (pw_and1 (pt_not (pt_val (u_call (ok_is_width T) T.g_is_width hr (pa_cons (pv 4) (pa_cons (pv 3) pa_nil)))))))) pss_never pss_nil)
        (pss_cons (ps_if (PW.pt (pw_and (pt_cmpR op_notN (pv 5) pe_non (nomark _)) (pw_and1 (pt_not (pt_val (u_call (ok_is_size T) T.g_is_size hr (pa_cons (pv 5) pa_nil))))))) pss_never pss_nil)
        (pss_cons (ps_fld (pv 0) (pv 1) rfl)
        (pss_cons (ps_fld (pv 0) (pv 2) rfl)
        (pss_cons (ps_fld (pv 0) (pv 3) rfl)
        (pss_cons (ps_fld (pv 0) (pe_ifExp (pt_cmpR op_isN (pv 4) pe_non (nomark _)) (pe_op op_mul pe_int (pv 3)) (pv 4)) rfl)
        (pss_one (ps_fld (pv 0) (pe_ifExp (pt_cmpR op_isN (pv 5) pe_non (nomark _)) (pv 3) (pv 5)) rfl))))))))))), ?_⟩
      obtain ⟨o1, o2⟩ := He.ba ok
      obtain ⟨o3, o4⟩ := He.ba o2
      obtain ⟨o5, o6⟩ := He.ba o4
      obtain ⟨o7, o8⟩ := He.ba o6
      refine ⟨_, rfl, k.name, rfl, hz, fun H1 e1 => ?_⟩
      rw [o1]
      refine ⟨_, rfl, ?_⟩
      refine ⟨_, rfl, k.group, rfl, ?_⟩
      rw [o3]
      refine ⟨_, rfl, ?_⟩
      refine ⟨_, rfl, _, rfl, rfl, ?_⟩
      rw [o5]
      refine ⟨_, rfl, ?_⟩
      have hx1 := e1 x _ hx
      have nf : ∀ {f : Str}, f ∈ (["own_name", "own_group", "own_size", "own_width", "own_align"] : List Str) → NoAttr W.K (ga W.K "Kind") f := fun h => T.na_Kind h
      have dI : ∀ i : Int, (!decide (V.int i = V.non)) = true := fun i => by rw [decide_eq_false (by intro z; cases z)]; rfl
      refine ⟨_, rfl, rfl, ?_⟩
      rw [dI]
      have hs0 : 0 ≤ k.size ∧ k.size ≤ 1000 := by
        rcases size_cases o5 with e | e | e | e | e <;> injection e with e <;> omega
      refine ⟨_, rfl, ?_⟩
      refine ⟨_, rfl, _, rfl, _, k.size, rfl, rfl, hs0.1, hs0.2, ?_⟩
      rw [o7]
      refine ⟨_, rfl, ?_⟩
      refine ⟨_, rfl, rfl, ?_⟩
      rw [dI]
      refine ⟨_, rfl, ?_⟩
      refine ⟨_, rfl, _, rfl, rfl, ?_⟩
      rw [o8]
      refine ⟨_, rfl, ?_⟩
      refine ⟨_, rfl, _, rfl, x, _, dx, _, rfl, hx1, T.cls_Kind, nf (by decide), by decide, ?_⟩
      refine ⟨_, rfl, _, rfl, x, _, dx, _, rfl, upd_same, T.cls_Kind, nf (by decide), of_decide_eq_true (by kernel_rfl), ?_⟩
      refine ⟨_, rfl, _, rfl, x, _, dx, _, rfl, upd_same, T.cls_Kind, nf (by decide), of_decide_eq_true (by kernel_rfl), ?_⟩
      have dN : ∀ i : Int, decide (V.int i = V.non) = false := fun i => decide_eq_false (by intro z; cases z)
      refine ⟨_, rfl, rfl, _, rfl, ?_⟩
      rw [dN]
      refine ⟨_, rfl, _, rfl, x, _, dx, _, rfl, upd_same, T.cls_Kind, nf (by decide), of_decide_eq_true (by kernel_rfl), ?_⟩
      refine ⟨_, rfl, rfl, _, rfl, ?_⟩
      rw [dN]
      refine ⟨_, rfl, _, rfl, x, _, dx, _, rfl, upd_same, T.cls_Kind, nf (by decide), of_decide_eq_true (by kernel_rfl), ?_⟩
      have fin := q H1 e1
      rw [upd_upd, upd_upd, upd_upd, upd_upd]
      exact fin
  · obtain ⟨its, mv, hb⟩ := F.kbinds (ps := ["self", "name", "group", "size", "width", "align"]) 3 ["size", "width", "align"] [] (fun us _ _ ws => us ++ ws) (by intro z; cases z) (by intro z; cases z) (fun _ h => absurd h (by simp)) (fun r1 _ _ r2 => r1.append r2)
      (fun T D doc pm an cdv ct us its mv ws h1 h2 h3 h4 => by
        obtain ⟨u1, u2, u3, rfl⟩ : ∃ a b c, us = [a, b, c] := by
          match us, h1 with
          | [a, b, c], _ => exact ⟨a, b, c, rfl⟩
        obtain ⟨w1, w2, w3, rfl⟩ : ∃ a b c, ws = [a, b, c] := by
          match ws, h4 with
          | [a, b, c], _ => exact ⟨a, b, c, rfl⟩
        obtain ⟨i1, rfl⟩ : ∃ a, its = [a] := by
          match its, h2 with
          | [a], _ => exact ⟨a, rfl⟩
        obtain rfl : mv = [] := List.length_eq_zero_iff.mp h3
        exact ⟨_, rfl, rfl⟩)
    exact ⟨_, _, hb, rfl⟩
end
end U
/-! ## getters -/
namespace U
open PySem PySem.Spec PyProof.Rows L2
section
variable {W : Wd}
theorem getter {x qual f : Str} {params : Arguments} {body : List Stmt} {scope : Scope} {C a : Addr} {p1 p2 p3 : Pos} {fd : FuncData} (F : FunD W.K x qual params body scope [] [] a fd) (S : FnScope ["self"] ["self"] scope)
    (hb : body = [.Return (some (.Attribute (.Name "self" p1) f p2)) p3]) (c : Cls W.K C) (n : NoAttr W.K C f)
    (h : ∀ (kV doc pm : Value) (an : Option Addr) (cdv ct : Value) (us : List Value), us.length = ["self"].length → bindArgs (PySem.W.fnOf x qual params body scope .none kV doc pm an cdv ct) ⟨us, []⟩ = pure ((["self"] : List Str).zip us)) :
    Fn W CX0 1 a ["self"] (getSp C f) := by
  refine ⟨⟨fd, ?_, F.bindsN h⟩, F.kp⟩
  obtain ⟨oc, od, dV, kV, doc, pm, an, cdv, ct, osl, rfl, lk, hcd, _, _⟩ := F.ex
  exact fn_getter lk hcd S rfl hb c n
theorem ok_Kind_name (T : Tx W) : Fn W CX0 1 (pa "Kind" "name" W.K) ["self"] (getSp (ga W.K "Kind") "own_name") := by
  obtain ⟨fd, F⟩ := T.d_Kind_name
  exact getter F ⟨rfl, rfl, rfl, by decide +kernel, rfl, by decide +kernel, by decide +kernel⟩ rfl T.cls_Kind (T.na_Kind (by decide)) fun _ _ _ _ _ _ us hl => match us, hl with | [_], _ => rfl
theorem ok_Kind_group (T : Tx W) : Fn W CX0 1 (pa "Kind" "group" W.K) ["self"] (getSp (ga W.K "Kind") "own_group") := by
  obtain ⟨fd, F⟩ := T.d_Kind_group
  exact getter F ⟨rfl, rfl, rfl, by decide +kernel, rfl, by decide +kernel, by decide +kernel⟩ rfl T.cls_Kind (T.na_Kind (by decide)) fun _ _ _ _ _ _ us hl => match us, hl with | [_], _ => rfl
theorem ok_Kind_size (T : Tx W) : Fn W CX0 1 (pa "Kind" "size" W.K) ["self"] (getSp (ga W.K "Kind") "own_size") := by
  obtain ⟨fd, F⟩ := T.d_Kind_size
  exact getter F ⟨rfl, rfl, rfl, by decide +kernel, rfl, by decide +kernel, by decide +kernel⟩ rfl T.cls_Kind (T.na_Kind (by decide)) fun _ _ _ _ _ _ us hl => match us, hl with | [_], _ => rfl
theorem ok_Kind_width (T : Tx W) : Fn W CX0 1 (pa "Kind" "width" W.K) ["self"] (getSp (ga W.K "Kind") "own_width") := by
  obtain ⟨fd, F⟩ := T.d_Kind_width
  exact getter F ⟨rfl, rfl, rfl, by decide +kernel, rfl, by decide +kernel, by decide +kernel⟩ rfl T.cls_Kind (T.na_Kind (by decide)) fun _ _ _ _ _ _ us hl => match us, hl with | [_], _ => rfl
theorem ok_Kind_align (T : Tx W) : Fn W CX0 1 (pa "Kind" "align" W.K) ["self"] (getSp (ga W.K "Kind") "own_align") := by
  obtain ⟨fd, F⟩ := T.d_Kind_align
  exact getter F ⟨rfl, rfl, rfl, by decide +kernel, rfl, by decide +kernel, by decide +kernel⟩ rfl T.cls_Kind (T.na_Kind (by decide)) fun _ _ _ _ _ _ us hl => match us, hl with | [_], _ => rfl
theorem ok_Fill_word (T : Tx W) : Fn W CX0 1 (pa "Fill" "word" W.K) ["self"] (getSp (ga W.K "Fill") "own_word") := by
  obtain ⟨fd, F⟩ := T.d_Fill_word
  exact getter F ⟨rfl, rfl, rfl, by decide +kernel, rfl, by decide +kernel, by decide +kernel⟩ rfl T.cls_Fill (T.na_Fill (by decide)) fun _ _ _ _ _ _ us hl => match us, hl with | [_], _ => rfl
theorem ok_Fill_extent (T : Tx W) : Fn W CX0 1 (pa "Fill" "extent" W.K) ["self"] (getSp (ga W.K "Fill") "own_extent") := by
  obtain ⟨fd, F⟩ := T.d_Fill_extent
  exact getter F ⟨rfl, rfl, rfl, by decide +kernel, rfl, by decide +kernel, by decide +kernel⟩ rfl T.cls_Fill (T.na_Fill (by decide)) fun _ _ _ _ _ _ us hl => match us, hl with | [_], _ => rfl
theorem ok_Convention_book (T : Tx W) : Fn W CX0 1 (pa "Convention" "book" W.K) ["self"] (getSp (ga W.K "Convention") "own_book") := by
  obtain ⟨fd, F⟩ := T.d_Convention_book
  exact getter F ⟨rfl, rfl, rfl, by decide +kernel, rfl, by decide +kernel, by decide +kernel⟩ rfl T.cls_Convention (T.na_Convention (by decide)) fun _ _ _ _ _ _ us hl => match us, hl with | [_], _ => rfl
theorem ok_Convention_together (T : Tx W) : Fn W CX0 1 (pa "Convention" "together" W.K) ["self"] (getSp (ga W.K "Convention") "own_together") := by
  obtain ⟨fd, F⟩ := T.d_Convention_together
  exact getter F ⟨rfl, rfl, rfl, by decide +kernel, rfl, by decide +kernel, by decide +kernel⟩ rfl T.cls_Convention (T.na_Convention (by decide)) fun _ _ _ _ _ _ us hl => match us, hl with | [_], _ => rfl
theorem ok_Convention_doubles (T : Tx W) : Fn W CX0 1 (pa "Convention" "doubles" W.K) ["self"] (getSp (ga W.K "Convention") "own_doubles") := by
  obtain ⟨fd, F⟩ := T.d_Convention_doubles
  exact getter F ⟨rfl, rfl, rfl, by decide +kernel, rfl, by decide +kernel, by decide +kernel⟩ rfl T.cls_Convention (T.na_Convention (by decide)) fun _ _ _ _ _ _ us hl => match us, hl with | [_], _ => rfl
theorem ok_Convention_again (T : Tx W) : Fn W CX0 1 (pa "Convention" "again" W.K) ["self"] (getSp (ga W.K "Convention") "own_again") := by
  obtain ⟨fd, F⟩ := T.d_Convention_again
  exact getter F ⟨rfl, rfl, rfl, by decide +kernel, rfl, by decide +kernel, by decide +kernel⟩ rfl T.cls_Convention (T.na_Convention (by decide)) fun _ _ _ _ _ _ us hl => match us, hl with | [_], _ => rfl
theorem ok_Convention_slot (T : Tx W) : Fn W CX0 1 (pa "Convention" "slot" W.K) ["self"] (getSp (ga W.K "Convention") "own_slot") := by
  obtain ⟨fd, F⟩ := T.d_Convention_slot
  exact getter F ⟨rfl, rfl, rfl, by decide +kernel, rfl, by decide +kernel, by decide +kernel⟩ rfl T.cls_Convention (T.na_Convention (by decide)) fun _ _ _ _ _ _ us hl => match us, hl with | [_], _ => rfl
theorem ok_Convention_natural (T : Tx W) : Fn W CX0 1 (pa "Convention" "natural" W.K) ["self"] (getSp (ga W.K "Convention") "own_natural") := by
  obtain ⟨fd, F⟩ := T.d_Convention_natural
  exact getter F ⟨rfl, rfl, rfl, by decide +kernel, rfl, by decide +kernel, by decide +kernel⟩ rfl T.cls_Convention (T.na_Convention (by decide)) fun _ _ _ _ _ _ us hl => match us, hl with | [_], _ => rfl
theorem ok_Convention_home (T : Tx W) : Fn W CX0 1 (pa "Convention" "home" W.K) ["self"] (getSp (ga W.K "Convention") "own_home") := by
  obtain ⟨fd, F⟩ := T.d_Convention_home
  exact getter F ⟨rfl, rfl, rfl, by decide +kernel, rfl, by decide +kernel, by decide +kernel⟩ rfl T.cls_Convention (T.na_Convention (by decide)) fun _ _ _ _ _ _ us hl => match us, hl with | [_], _ => rfl
theorem ok_Convention_tail (T : Tx W) : Fn W CX0 1 (pa "Convention" "tail" W.K) ["self"] (getSp (ga W.K "Convention") "own_tail") := by
  obtain ⟨fd, F⟩ := T.d_Convention_tail
  exact getter F ⟨rfl, rfl, rfl, by decide +kernel, rfl, by decide +kernel, by decide +kernel⟩ rfl T.cls_Convention (T.na_Convention (by decide)) fun _ _ _ _ _ _ us hl => match us, hl with | [_], _ => rfl
end
end U
/-! ## texts.py: kind_in -/
namespace U
open PySem PySem.Spec PyProof.Rows L2
section
variable {W : Wd}
/-- the kind that a line's words tell -/
def kindIn (ws : List Str) : Option KindD := match ws with
  | [a, b, c, d, e, f] =>
    if a = Str.ofString "kind" ∧ isName b = true ∧ isGroup c = true ∧ isSize (numIn d) = true then
      (match numIn d, numIn e, numIn f with
        | .int s, .int w, .int l => if isWidth (.int w) s = true ∧ isSize (.int l) = true then some ⟨b, c, s, w, l⟩ else none
        | _, _, _ => none)
    else none
  | _ => none
theorem numIn_cases (z : Str) : numIn z = .non ∨ ∃ i, numIn z = .int i := by
  unfold numIn
  by_cases h : isDec z = true ∧ z.length ≤ 3
  · rw [if_pos h]
    exact .inr ⟨_, rfl⟩
  · rw [if_neg h]
    exact .inl rfl
theorem flat_numIn (z : Str) : flatS (numIn z) = true := by
  rcases numIn_cases z with h | ⟨i, h⟩ <;> rw [h] <;> rfl
theorem sc_kind_in : FnScope ["words", "size", "width", "align", "word"] ["words"] (defScope s_kind_in) := ⟨rfl, rfl, rfl, by decide +kernel, rfl, by decide +kernel, by decide +kernel⟩
def sp_kind_in (C : Addr) : Sp := fun vs H Q _ => ∃ (p : Addr) (ws : List Str), vs = [.ref p] ∧ H p = some (.lst (ws.map V.str)) ∧ (∀ w ∈ ws, w.length ≤ 16777216) ∧
  (∀ H', kindIn ws = none → Ex H H' → Q .non H') ∧ ∀ k, kindIn ws = some k → ∀ (H' : Hp) (a dx : Addr), Ex H H' → H a = none → H' a = some (.ins C dx (kindF k)) → Q (.ref a) H'
theorem eS {a b : Str} : decide (V.str a = V.str b) = decide (a = b) := by
  rw [Bool.eq_iff_iff]
  simp
theorem eI {a b : Int} : decide (V.int a = V.int b) = decide (a = b) := by
  rw [Bool.eq_iff_iff]
  simp
theorem nb {b : Bool} (h : (!b) = true) : b = false := by
  cases b
  · rfl
  · cases h
theorem nf {b : Bool} (h : (!b) = false) : b = true := by
  cases b
  · cases h
  · rfl
theorem ok_kind_in (T : Tx W) : Fn W CX0 5 (ga W.K "kind_in") ["words"] (sp_kind_in (ga W.K "Kind")) := by
  obtain ⟨fd, F⟩ := T.d_kind_in
  obtain ⟨fdK, FK, g, gV, hKB, rfl⟩ := ok_Kind_init T
  refine ⟨⟨fd, ?_, F.bindsN fun _ _ _ _ _ _ us hl => match us, hl with | [_], _ => rfl⟩, F.kp⟩
  refine F.ok sc_kind_in (fun vs H Q E h => ?_) (fun cdv A outer s H vs Q E hr h => ?_)
  · obtain ⟨p, ws, rfl, _⟩ := h
    rfl
  · obtain ⟨p, ws, rfl, hp, hw, kN, kS⟩ := h
    refine ⟨_, PSs.nox (pss_cons (ps_if (PW.pt (pw_or (pt_cmpR op_ne (pe_callB call_len_seq (by rfl) T.f_len (by decide +kernel) (pa_cons (pv 0) pa_nil)) pe_int (nomark _))
          (pw_or (pt_cmpR op_ne (pe_ix ix_list (pv 0) pe_int (fun _ _ => rfl)) pe_str (nomark _))
          (pw_or (pt_not (pt_val (u_call (ok_is_name T) T.g_is_name hr (pa_cons (pe_ix ix_list (pv 0) pe_int (fun _ _ => rfl)) pa_nil))))
          (pw_or1 (pt_not (pt_val (u_call (ok_is_group T) T.g_is_group_kinds hr (pa_cons (pe_ix ix_list (pv 0) pe_int (fun _ _ => rfl)) pa_nil)))))))))
        (pss_one (ps_ret pe_non)) pss_nil)
      (pss_cons (ps_asg (pe_lc (own := [("word", 4)]) (g := gName 4) (tt := tYes) rfl sc_kind_in.nd (pi_list (pe_slice sl_list (pv 0) (po_some pe_int) po_none)) (blkOk_by (N := ["words", "size", "width", "align", "word"]) (sc := defScope s_kind_in) (by decide +kernel))
          (fun _ _ _ _ _ => pg_name (i := 4) sc_kind_in.nd rfl (Or.inl rfl)) (fun _ _ _ _ _ => pts_nil) (fun _ _ _ _ _ => u_call (ok_number_in T) T.g_number_in hr (pa_cons (pv 4) pa_nil)))
          (pg_lst rfl (pgs_cons (pg_name (i := 1) sc_kind_in.nd rfl (Or.inl rfl)) (pgs_cons (pg_name (i := 2) sc_kind_in.nd rfl (Or.inl rfl)) (pgs_cons (pg_name (i := 3) sc_kind_in.nd rfl (Or.inl rfl)) pgs_nil)))))
      (pss_cons (ps_if (PW.pt (pw_or (pt_not (pt_val (u_call (ok_is_size T) T.g_is_size hr (pa_cons (pv 1) pa_nil))))
          (pw_or (pt_not (pt_val (u_call (ok_is_width T) T.g_is_width hr (pa_cons (pv 2) (pa_cons (pv 1) pa_nil)))))
          (pw_or1 (pt_not (pt_val (u_call (ok_is_size T) T.g_is_size hr (pa_cons (pv 3) pa_nil))))))))
        (pss_one (ps_ret pe_non)) pss_nil)
      (pss_one (ps_ret (pe_makeK T.mk_Kind FK (hr.mono (by decide)) (by rfl) T.g_Kind hKB pass0 (pa_cons (pe_ix ix_list (pv 0) pe_int (fun _ _ => rfl)) (pa_cons (pe_ix ix_list (pv 0) pe_int (fun _ _ => rfl)) pa_nil))
        (pk_cons (pv 1) (pk_cons (pv 2) (pk_cons (pv 3) pk_nil))))))))), ?_⟩
    refine ⟨_, rfl, p, _, rfl, .inl (SqL.of hp), rfl, _, rfl, ?_⟩
    refine iteB (c := !_) (fun h1 => kN H ?_ (Ex.refl H)) (fun h1 => ?_)
    · have h2 : ¬ ws.length = 6 := fun e => by
        have e2 : ((ws.map V.str).length : Int) = 6 := by rw [List.length_map, e]; rfl
        rw [decide_eq_true (by rw [e2])] at h1
        cases h1
      unfold kindIn
      split
      · exact absurd rfl h2
      · rfl
    · obtain ⟨a, b, c, d, e, f, rfl⟩ : ∃ a b c d e f, ws = [a, b, c, d, e, f] := by
        have h2 := nf h1
        rw [eI] at h2
        have h3 := of_decide_eq_true h2
        rw [List.length_map] at h3
        have h4 : ws.length = 6 := by omega
        match ws, h4 with
        | [a, b, c, d, e, f], _ => exact ⟨a, b, c, d, e, f, rfl⟩
      have la : b.length ≤ 16777216 := hw b (by simp)
      refine ⟨_, rfl, p, _, _, _, rfl, rfl, SqL.of hp, rfl, rfl, _, rfl, ?_⟩
      rw [eS]
      refine iteB (c := !_) (fun h2 => kN H ?_ (Ex.refl H)) (fun h2 => ?_)
      · unfold kindIn
        dsimp only
        rw [if_neg]
        rintro ⟨q, _⟩
        rw [decide_eq_true q] at h2
        cases h2
      · have ea : a = Str.ofString "kind" := of_decide_eq_true (nf h2)
        refine ⟨_, rfl, p, _, _, _, rfl, rfl, SqL.of hp, rfl, b, rfl, la, fun H1 e1 => ⟨_, rfl, ?_⟩⟩
        refine iteB (c := !_) (fun h3 => kN H1 ?_ e1) (fun h3 => ?_)
        · unfold kindIn
          dsimp only
          rw [if_neg]
          rintro ⟨_, q, _⟩
          rw [nb h3] at q
          cases q
        · have eb := nf h3
          have hp1 := e1 p _ hp
          refine ⟨_, rfl, p, _, _, _, rfl, rfl, SqL.of hp1, rfl, c, rfl, _, rfl, ?_⟩
          refine iteB (c := !_) (fun h4 => kN H1 ?_ e1) (fun h4 => ?_)
          · unfold kindIn
            dsimp only
            rw [if_neg]
            rintro ⟨_, _, q, _⟩
            rw [nb h4] at q
            cases q
          · have ec := nf h4
            refine ⟨_, rfl, _, rfl, p, _, rfl, SqL.of hp1, fun q hq => ⟨q, rfl, ⟨_, SqL.of upd_same⟩, fun D hD => ?_⟩⟩
            have e2 : Ex H1 (upd H1 q (.lst (cutV ([a, b, c, d, e, f].map V.str) (some 3) none))) := (Ex.refl H1).new hq
            have exq : cutV ([a, b, c, d, e, f].map V.str) (some 3) none = [V.str d, .str e, .str f] := rfl
            rw [exq] at hD e2 ⊢
            have hpq : upd H1 q (.lst [V.str d, .str e, .str f]) p = some (.lst ([a, b, c, d, e, f].map V.str)) := e2 p _ hp1
            refine lc_map (S := []) (B := upd H1 q (.lst [V.str d, .str e, .str f])) (walk_list (xs := [V.str d, .str e, .str f])) [numIn d, numIn e, numIn f] rfl (by show 3 ≤ 16777216; decide) (Ex.refl _) hD (fun _ _ _ => True) True.intro (fun i B' H' hi at_ _ => SqL.of (at_.st.bh q _ (at_.st.bb q _ upd_same))) (fun i x y B' H' H'' R R' hi hy at_ _ hx r => ?_) (fun B' H' at_ _ => ?_)
            · obtain ⟨rfl, hx⟩ := hx
              obtain ⟨w, rfl, rfl, hwl⟩ : ∃ w : Str, x = .str w ∧ y = numIn w ∧ w.length ≤ 16777216 := by
                match i, hi with
                | 0, _ => exact ⟨d, (Option.some.inj hx).symm, (Option.some.inj hy).symm, hw d (by simp)⟩
                | 1, _ => exact ⟨e, (Option.some.inj hx).symm, (Option.some.inj hy).symm, hw e (by simp)⟩
                | 2, _ => exact ⟨f, (Option.some.inj hx).symm, (Option.some.inj hy).symm, hw f (by simp)⟩
              refine ⟨rfl, _, rfl, w, rfl, hwl, fun H4 e4 => r B' H4 ⟨?_, e4 D _ at_.at_⟩ fun _ => True.intro⟩
              exact ⟨at_.st.bb, at_.st.bh.trans e4, fun a o n h => e4 a o (at_.st.hh a o n h), at_.st.nb⟩
            · have e5 : Ex H1 H' := e2.trans (at_.st.bb.trans at_.st.bh)
              have e6 : Ex H H' := e1.trans e5
              refine ⟨D, _, rfl, SqL.of at_.at_, rfl, ?_⟩
              refine ⟨_, _, rfl, _, _, rfl, _, _, rfl, rfl, ?_⟩
              have hpH : H' p = some (.lst ([a, b, c, d, e, f].map V.str)) := e5 p _ hp1
              have base : kindIn [a, b, c, d, e, f] = if isSize (numIn d) = true then (match numIn d, numIn e, numIn f with
                  | .int s, .int w, .int l => if isWidth (.int w) s = true ∧ isSize (.int l) = true then some ⟨b, c, s, w, l⟩ else none
                  | _, _, _ => none) else none := by
                unfold kindIn
                dsimp only
                by_cases q : isSize (numIn d) = true
                · rw [if_pos ⟨ea, eb, ec, q⟩, if_pos q]
                · rw [if_neg q, if_neg (fun z => q z.2.2.2)]
              refine ⟨_, rfl, numIn d, rfl, flat_numIn d, _, rfl, ?_⟩
              refine iteB (c := !_) (fun h5 => kN H' ?_ e6) (fun h5 => ?_)
              · rw [base, if_neg]
                rw [nb h5]
                exact Bool.false_ne_true
              · have ed := nf h5
                rw [if_pos ed] at base
                obtain ⟨sz, esz⟩ : ∃ s, numIn d = .int s := by
                  rcases numIn_cases d with z | z
                  · rw [z] at ed
                    cases ed
                  · exact z
                have hs0 : 0 ≤ sz ∧ sz ≤ 1000 := by
                  rw [esz] at ed
                  rcases size_cases ed with z | z | z | z | z <;> injection z with z <;> omega
                rw [esz] at base ed
                refine ⟨_, rfl, _, rfl, numIn e, sz, ?_, flat_numIn e, hs0.1, hs0.2, _, rfl, ?_⟩
                · rw [esz]
                  rfl
                refine iteB (c := !_) (fun h6 => kN H' ?_ e6) (fun h6 => ?_)
                · rw [base]
                  rcases numIn_cases e with z | ⟨w, z⟩
                  · rw [z]
                  · rw [z] at h6 ⊢
                    rcases numIn_cases f with z2 | ⟨l, z2⟩
                    · rw [z2]
                    · rw [z2]
                      dsimp only
                      rw [if_neg]
                      rintro ⟨q, _⟩
                      rw [nb h6] at q
                      cases q
                · obtain ⟨wd, ewd⟩ : ∃ s, numIn e = .int s := by
                    rcases numIn_cases e with z | z
                    · rw [z] at h6
                      cases h6
                    · exact z
                  have ew := nf h6
                  rw [ewd] at base ew
                  refine ⟨_, rfl, numIn f, rfl, flat_numIn f, _, rfl, ?_⟩
                  refine iteB (c := !_) (fun h7 => kN H' ?_ e6) (fun h7 => ?_)
                  · rw [base]
                    rcases numIn_cases f with z2 | ⟨l, z2⟩
                    · rw [z2]
                    · rw [z2] at h7 ⊢
                      dsimp only
                      rw [if_neg]
                      rintro ⟨_, q⟩
                      rw [nb h7] at q
                      cases q
                  · obtain ⟨al, eal⟩ : ∃ s, numIn f = .int s := by
                      rcases numIn_cases f with z | z
                      · rw [z] at h7
                        cases h7
                      · exact z
                    have el := nf h7
                    rw [eal] at base el
                    dsimp only at base
                    rw [if_pos ⟨ew, el⟩] at base
                    refine ⟨_, rfl, p, _, _, _, rfl, rfl, SqL.of hpH, rfl, _, rfl, p, _, _, _, rfl, rfl, SqL.of hpH, rfl, ?_⟩
                    refine ⟨_, rfl, _, rfl, _, rfl, rfl, rfl, fun x dx nx ndx ne => ?_⟩
                    refine ⟨x, dx, ⟨b, c, sz, wd, al⟩, ?_, ?_, la, upd_same, fun H8 e8 => ⟨rfl, kS _ base _ x dx ?_ ?_ upd_same⟩⟩
                    · show [V.ref x, .str b, .str c, numIn d, numIn e, numIn f] = _
                      rw [esz, ewd, eal]
                    · show (isName b && (isGroup c && (isSize (.int sz) && (isWidth (.int wd) sz && isSize (.int al))))) = true
                      rw [eb, ec, ed, ew, el]
                      rfl
                    · intro u o hu
                      have hu2 := e6 u o hu
                      rw [upd_ne (ne_of_none hu2 nx)]
                      refine e8 u o ?_
                      rw [upd_ne (ne_of_none hu2 nx), upd_ne (ne_of_none hu2 ndx)]
                      exact hu2
                    · exact e6.none nx
end
end U
/-! ## fills.py -/
namespace U
open PySem PySem.Spec PyProof.Rows L2
/-- as Fn, with defaults that fill up -/
structure FnD (W : Wd) (CX : CXT) (k : Nat) (f : Addr) (ps : List Str) (dvs : List V) (sp : Sp) : Prop where
  ex : ∃ fd ds, FnOk W.P W.w W.K W.mg W.base CX k f fd ps sp ∧ Binds W.K fd ps ds ∧ Vals dvs ds
section
variable {W : Wd} {X : Cx} {x m : Str} {k j : Nat} {f C p' : Addr} {ps : List Str} {dvs : List V} {sp : Sp} {p pos apos : Pos} {e o : Expr} {es : List Expr} {t : TA}
theorem u_make0D (F : FnD W CX0 k f ps dvs sp) (M : Mk W.K C f) (hm : W.mg x = some (.ref C)) (hr : Room j X.A) (hx : CxIs X W := by exact ⟨rfl, rfl, rfl, rfl, rfl⟩) (hk : k + 1 ≤ j := by decide) (hg : Gl X x := by rfl) (hdb : (x == ("__debug__" : Str)) = false := by decide) :
    PE X (.Call (.Name x p) [] [] pos) (tMake C sp dvs E0 tNil) := by
  obtain ⟨fd, ds, F1, F4, F5⟩ := F.ex
  obtain ⟨a1, a2, a3, a4, a5⟩ := hx
  rw [← a1, ← a2, ← a3, ← a4, ← a5] at F1
  rw [← a4] at hm
  rw [← a3] at F4 M
  exact pe_make0 M F1 (hr.mono hk) hg hm F4 F5 pass0 hdb
end
section
variable {W : Wd}
def isExt (z : Str) : Bool := isDec z && (decide (z.length ≤ 3) && (decide (3 ≤ valT z) && decide (valT z ≤ 128)))
theorem sc_is_extent_word : FnScope ["word"] ["word"] (defScope s_is_extent_word) := ⟨rfl, rfl, rfl, by decide +kernel, rfl, by decide +kernel, by decide +kernel⟩
def sp_is_extent_word : Sp := fun vs H Q _ => ∃ z : Str, vs = [.str z] ∧ z.length ≤ 16777216 ∧ ∀ H', Ex H H' → Q (.bl (isExt z)) H'
theorem ok_is_extent_word (T : Tx W) : Fn W CX0 2 (ga W.K "is_extent_word") ["word"] sp_is_extent_word := by
  obtain ⟨fd, F⟩ := T.d_is_extent_word
  obtain ⟨t1, c1⟩ := T.c_MOST_EXTENT
  obtain ⟨t2, c2⟩ := T.c_LEAST_EXTENT
  refine ⟨⟨fd, ?_, F.bindsN fun _ _ _ _ _ _ us hl => match us, hl with | [_], _ => rfl⟩, F.kp⟩
  refine F.ok sc_is_extent_word (fun vs H Q E h => ?_) (fun cdv A outer s H vs Q E hr h => ?_)
  · obtain ⟨z, rfl, _⟩ := h
    rfl
  · obtain ⟨z, rfl, hz, k⟩ := h
    refine ⟨_, PSs.nox (pss_one (ps_ret (pe_and (u_call (ok_is_decimal T) T.g_is_decimal hr (pa_cons (pv 0) pa_nil))
      (pe_and (pe_cmpR op_le (pe_callB call_len_str (by rfl) T.f_len (by decide +kernel) (pa_cons (pv 0) pa_nil)) (pe_callB call_len_str (by rfl) T.f_len (by decide +kernel) (pa_cons (pe_callTy call_str_int (by rfl) T.f_str (by decide +kernel) (pa_cons (pe_glob (v := .int 128) (by rfl) c1 ⟨_, rfl⟩) pa_nil)) pa_nil)) (nomark _))
      (pe_one (pe_chain op_le op_le (pe_glob (v := .int 3) (by rfl) c2 ⟨_, rfl⟩) (pe_callTy call_int_str (by rfl) T.f_int (by decide +kernel) (pa_cons (pv 0) pa_nil)) (pe_glob (v := .int 128) (by rfl) c1 ⟨_, rfl⟩))))))), ?_⟩
    refine ⟨_, rfl, z, rfl, hz, fun H1 e1 => ⟨_, rfl, ?_⟩⟩
    have k2 : ∀ b, isExt z = b → Q (.bl b) H1 := fun b e => by rw [← e]; exact k H1 e1
    refine iteB (fun h1 => ?_) (fun h1 => k2 false ?_)
    · have e2 : isExt z = (decide (z.length ≤ 3) && (decide (3 ≤ valT z) && decide (valT z ≤ 128))) := by
        unfold isExt
        rw [h1, Bool.true_and]
      refine ⟨_, rfl, _, rfl, by rw [sizeLine_eq]; exact hz, _, rfl, by decide, _, rfl, by rw [sizeLine_eq]; decide +kernel, _, _, rfl, rfl, _, rfl, ?_⟩
      have e3 : ((Str.ofString (toString (128 : Int))).length : Int) = 3 := by decide +kernel
      refine iteB (fun h2 => ?_) (fun h2 => k2 false ?_)
      · have h3 : z.length ≤ 3 := by
          have := of_decide_eq_true h2
          omega
        rw [decide_eq_true h3, Bool.true_and] at e2
        refine ⟨_, rfl, z, _, rfl, int_of_dec h1 (by omega), by omega, _, _, rfl, rfl, _, rfl, ?_⟩
        refine iteB (fun h4 => ⟨_, _, rfl, rfl, k2 _ ?_⟩) (fun h4 => k2 false ?_)
        · rw [e2, h4, Bool.true_and]
        · rw [e2, h4, Bool.false_and]
      · have h3 : ¬ z.length ≤ 3 := by
          have := of_decide_eq_false h2
          omega
        rw [e2, decide_eq_false h3, Bool.false_and]
    · unfold isExt
      rw [h1, Bool.false_and]
/-! ### Fill -/
structure FillD where
  word : Str
  ext : V
def FREE : Str := Str.ofString "free"
def ZEROS : Str := Str.ofString "zeros"
def SIGN : Str := Str.ofString "sign"
def fillF (f : FillD) : List (Str × V) := [("own_word", .str f.word), ("own_extent", f.ext)]
/-- a fill as it must be -/
def FillD.Ok (f : FillD) : Prop := (f.word = FREE ∧ f.ext = .non) ∨ ((f.word = ZEROS ∨ f.word = SIGN) ∧ ∃ i, f.ext = .int i ∧ 3 ≤ i ∧ i ≤ 128)
theorem sc_Fill_init : FnScope ["self", "word", "extent"] ["self", "word", "extent"] (defScope s_Fill___init__) := ⟨rfl, rfl, rfl, by decide +kernel, rfl, by decide +kernel, by decide +kernel⟩
def sp_Fill_init (C : Addr) : Sp := fun vs H Q _ => ∃ (x dx : Addr) (f : FillD), vs = [.ref x, .str f.word, f.ext] ∧ f.Ok ∧ H x = some (.ins C dx []) ∧ ∀ H1, Ex H H1 → Q .non (upd H1 x (.ins C dx (fillF f)))
theorem fok_Fill_init (T : Tx W) {fd : FuncData} (F : Df W.K d_Fill___init__ fd) : FnOk W.P W.w W.K W.mg W.base CX0 4 (ca "Fill" "__init__" W.K) fd ["self", "word", "extent"] (sp_Fill_init (ga W.K "Fill")) := by
  obtain ⟨t1, c1⟩ := T.c_FREE
  obtain ⟨t2, c2⟩ := T.c_ZEROS
  obtain ⟨t3, c3⟩ := T.c_SIGN
  obtain ⟨t4, c4⟩ := T.c_LEAST_EXTENT
  obtain ⟨t5, c5⟩ := T.c_MOST_EXTENT
  refine F.ok sc_Fill_init (fun vs H Q E h => ?_) (fun cdv A outer s H vs Q E hr h => ?_)
  · obtain ⟨x, dx, f, rfl, _⟩ := h
    rfl
  · obtain ⟨x, dx, f, rfl, ok, hx, q⟩ := h
    refine ⟨_, PSs.nox (pss_cons (ps_if (PW.pt (pw_or (pt_not (pt_val (pe_callB call_isi (by rfl) T.f_isinstance (by decide +kernel) (pa_cons (pv 1) (pa_cons (pe_bltn (v := .ty "str") (by rfl) T.f_str (by decide +kernel) rfl) pa_nil)))))
          (pw_or1 (pt_cmpR op_notIn_seq (pv 1) (pe_tup (pa_cons (pe_glob (v := .str FREE) (by rfl) c1 ⟨_, rfl⟩) (pa_cons (pe_glob (v := .str ZEROS) (by rfl) c2 ⟨_, rfl⟩) (pa_cons (pe_glob (v := .str SIGN) (by rfl) c3 ⟨_, rfl⟩) pa_nil)))) rfl)))) pss_never pss_nil)
      (pss_cons (ps_if (PW.pt (pw_and (pt_cmpR op_eq (pv 1) (pe_glob (v := .str FREE) (by rfl) c1 ⟨_, rfl⟩) (nomark _)) (pw_and1 (pt_cmpR op_notN (pv 2) pe_non (nomark _))))) pss_never pss_nil)
      (pss_cons (ps_if (PW.pt (pw_and (pt_cmpR op_ne (pv 1) (pe_glob (v := .str FREE) (by rfl) c1 ⟨_, rfl⟩) (nomark _)) (pw_and1 (pt_not (pt_val (u_call (ok_is_count_from T) T.g_is_count_from hr (pa_cons (pv 2) (pa_cons (pe_glob (v := .int 3) (by rfl) c4 ⟨_, rfl⟩) (pa_cons (pe_glob (v := .int 128) (by rfl) c5 ⟨_, rfl⟩) pa_nil))))))))) pss_never pss_nil)
      (pss_cons (ps_fld (pv 0) (pv 1) rfl)
      (pss_one (ps_fld (pv 0) (pv 2) rfl)))))), ?_⟩
    have nfa : ∀ {g : Str}, g ∈ (["own_word", "own_extent"] : List Str) → NoAttr W.K (ga W.K "Fill") g := fun h => T.na_Fill h
    refine ⟨_, rfl, _, _, _, _, _, rfl, .ty _, .base (.str _), (show PySem.W.kitOne W.K (.type "str") (.type "str") = some true from kit_ty (by decide +kernel)), _, rfl, ?_⟩
    refine ⟨_, rfl, ?_⟩
    refine ⟨by show 3 ≤ sizeLine; decide, fun t ht => ?_⟩
    have hin : inV (.str f.word) [.str FREE, .str ZEROS, .str SIGN] = true := by
      rcases ok with ⟨e, _⟩ | ⟨e | e, _⟩ <;> rw [e] <;> decide +kernel
    refine ⟨t, _, rfl, .inr (SqT.of upd_same), rfl, rfl, ?_⟩
    show ∃ k, V.bl (!inV (.str f.word) [.str FREE, .str ZEROS, .str SIGN]) = .bl k ∧ _
    rw [hin]
    refine ⟨_, rfl, ?_⟩
    have e1 : Ex H (upd H t (.tup [V.str FREE, .str ZEROS, .str SIGN])) := (Ex.refl H).new ht
    have hx1 := e1 x _ hx
    have fin : ∀ vv : V, vv = f.ext → sFld W.K (tVar 0) (tVar 1) "own_word" { nx := sFld W.K (tVar 0) (tVar 2) "own_extent" { nx := fun _ H' => Q .non H', rt := Q }, rt := Q } (start ["self", "word", "extent"] [.ref x, .str f.word, vv]) (upd H t (.tup [V.str FREE, .str ZEROS, .str SIGN])) := by
      intro vv hv
      subst hv
      refine ⟨_, rfl, _, rfl, x, _, dx, _, rfl, hx1, T.cls_Fill, nfa (by decide), by decide, ?_⟩
      refine ⟨_, rfl, _, rfl, x, _, dx, _, rfl, upd_same, T.cls_Fill, nfa (by decide), of_decide_eq_true (by kernel_rfl), ?_⟩
      have z := q _ e1
      show Q .non (upd (upd _ x _) x _)
      rw [upd_upd]
      exact z
    rcases ok with ⟨e, e2⟩ | ⟨e, i, e2, i1, i2⟩
    · refine ⟨_, rfl, rfl, _, rfl, ?_⟩
      rw [eS, decide_eq_true e]
      refine ⟨_, rfl, rfl, _, rfl, ?_⟩
      rw [e2, decide_eq_true rfl]
      refine ⟨_, rfl, rfl, _, rfl, ?_⟩
      rw [eS, decide_eq_true e]
      exact fin _ e2.symm
    · have ne : f.word ≠ FREE := by
        rcases e with e | e <;> rw [e] <;> decide +kernel
      refine ⟨_, rfl, rfl, _, rfl, ?_⟩
      rw [eS, decide_eq_false ne]
      refine ⟨_, rfl, rfl, _, rfl, ?_⟩
      rw [eS, decide_eq_false ne]
      refine ⟨_, rfl, _, 3, 128, rfl, ?_, ?_⟩
      · rw [e2]
        rfl
      · rw [e2]
        have ei : isCountFrom (.int i) 3 128 = true := by
          show (decide (0 ≤ i) && (decide (3 ≤ i) && decide (i ≤ 128))) = true
          rw [decide_eq_true i1, decide_eq_true i2, decide_eq_true (show 0 ≤ i by omega)]
          rfl
        rw [ei]
        refine ⟨_, rfl, ?_⟩
        exact fin _ e2.symm
theorem ok_Fill_init (T : Tx W) : Fn W CX0 4 (ca "Fill" "__init__" W.K) ["self", "word", "extent"] (sp_Fill_init (ga W.K "Fill")) := by
  obtain ⟨fd, F⟩ := T.d_Fill___init__
  refine ⟨⟨fd, fok_Fill_init T F, ?_⟩, F.kp⟩
  obtain ⟨ds, h1, h2⟩ := F.binds1 (ps := ["self", "word", "extent"]) 3 2 (by intro z; cases z) rfl (fun TT kV doc pm an cdv ct us its h1 h2 => by
    match us, h1, its, h2 with
    | [a, b, c], _, [i, j], _ => exact ⟨_, rfl, rfl⟩)
  have e : ds = [] := by
    cases h1
    rfl
  rw [e] at h2
  exact h2
theorem ok_Fill_init0 (T : Tx W) : FnD W CX0 4 (ca "Fill" "__init__" W.K) ["self", "word", "extent"] [.str FREE, .non] (sp_Fill_init (ga W.K "Fill")) := by
  obtain ⟨fd, F⟩ := T.d_Fill___init__
  obtain ⟨ds, h1, h2⟩ := F.binds1 (ps := ["self", "word", "extent"]) 1 0 (by intro z; cases z) rfl (fun TT kV doc pm an cdv ct us its h1 h2 => by
    match us, h1, its, h2 with
    | [a], _, [i, j], _ => exact ⟨_, rfl, rfl⟩)
  exact ⟨⟨fd, ds, fok_Fill_init T F, h2, h1⟩⟩
/-! ### == of fills -/
theorem sc_Fill_eq : FnScope ["self", "other"] ["self", "other"] (defScope s_Fill___eq__) := ⟨rfl, rfl, rfl, by decide +kernel, rfl, by decide +kernel, by decide +kernel⟩
def FillAt (K : Fg) (H : Hp) (a : Addr) (f : FillD) : Prop := ∃ dx, H a = some (.ins (ga K "Fill") dx (fillF f))
def eqE (x y : V) : Bool := decide (x = y)
def fillEq (f g : FillD) : Bool := decide (f.word = g.word) && decide (f.ext = g.ext)
def sp_Fill_eq (K : Fg) : Sp := fun vs H Q _ => ∃ (x y : Addr) (f g : FillD), vs = [.ref x, .ref y] ∧ FillAt K H x f ∧ FillAt K H y g ∧ f.Ok ∧ g.Ok ∧ Q (.bl (fillEq f g)) H
theorem scal_ext {f g : FillD} (h : f.Ok) (h' : g.Ok) (hw : f.word = g.word) : scal f.ext g.ext = true := by
  rcases h with ⟨e, e2⟩ | ⟨e, i, e2, _⟩ <;> rcases h' with ⟨e', e2'⟩ | ⟨e', i', e2', _⟩
  · rw [e2, e2']
    rfl
  · rw [e] at hw
    rcases e' with e' | e' <;> rw [e'] at hw <;> exact absurd hw (by decide +kernel)
  · rw [e'] at hw
    rcases e with e | e <;> rw [e] at hw <;> exact absurd hw (by decide +kernel)
  · rw [e2, e2']
    rfl
theorem ok_Fill_eq (T : Tx W) : Fn W CX0 1 (ca "Fill" "__eq__" W.K) ["self", "other"] (sp_Fill_eq W.K) := by
  obtain ⟨fd, F⟩ := T.d_Fill___eq__
  refine ⟨⟨fd, ?_, F.bindsN fun _ _ _ _ _ _ us hl => match us, hl with | [_, _], _ => rfl⟩, F.kp⟩
  refine F.ok sc_Fill_eq (fun vs H Q E h => ?_) (fun cdv A outer s H vs Q E hr h => ?_)
  · obtain ⟨x, y, f, g, rfl, _⟩ := h
    rfl
  · obtain ⟨x, y, f, g, rfl, ⟨dx, hx⟩, ⟨dy, hy⟩, of, og, k⟩ := h
    refine ⟨_, PSs.nox (pss_cons (ps_if (pt_not (pt_val (pe_callB call_isi (by rfl) T.f_isinstance (by decide +kernel) (pa_cons (pv 1) (pa_cons (pe_glob (v := .ref (ga W.K "Fill")) (by rfl) T.g_Fill rfl) pa_nil))))) (pss_one (ps_ret pe_bl)) pss_nil)
      (pss_one (ps_ret (pe_and (pe_cmpR op_eq (pe_fld (pv 0) rfl) (pe_fld (pv 1) rfl) (nomark _)) (pe_one (pe_cmpR op_eq (pe_fld (pv 0) rfl) (pe_fld (pv 1) rfl) (nomark _))))))), ?_⟩
    have nfa : ∀ {g : Str}, g ∈ (["own_word", "own_extent"] : List Str) → NoAttr W.K (ga W.K "Fill") g := fun h => T.na_Fill h
    refine ⟨_, rfl, _, _, _, _, _, rfl, .own _, T.ty_Fill.of T.cls_Fill hy, T.kk_Fill, _, rfl, ?_⟩
    refine ⟨_, rfl, x, _, dx, _, _, rfl, hx, T.cls_Fill, nfa (by decide), rfl, _, rfl, y, _, dy, _, _, rfl, hy, T.cls_Fill, nfa (by decide), rfl, rfl, _, rfl, ?_⟩
    rw [eS]
    refine iteB (fun h1 => ?_) (fun h1 => ?_)
    · have hw := of_decide_eq_true h1
      refine ⟨_, rfl, x, _, dx, _, _, rfl, hx, T.cls_Fill, nfa (by decide), rfl, _, rfl, y, _, dy, _, _, rfl, hy, T.cls_Fill, nfa (by decide), rfl, scal_ext of og hw, ?_⟩
      have e : fillEq f g = decide (f.ext = g.ext) := by
        unfold fillEq
        rw [h1, Bool.true_and]
      rw [e] at k
      exact k
    · have e : fillEq f g = false := by
        unfold fillEq
        rw [h1, Bool.false_and]
      rw [e] at k
      exact k
end
end U
/-! ## kinds.py: Book -/
namespace U
open PySem PySem.Spec PyProof.Rows L2
section
variable {W : Wd}
def KindAt (K : Fg) (H : Hp) (a : Addr) (k : KindD) : Prop := ∃ dx, H a = some (.ins (ga K "Kind") dx (kindF k))
def partsV (k : KindD) : List V := [.str k.name, .str k.group, .int k.size, .int k.width, .int k.align]
theorem sc_Kind_parts : FnScope ["self"] ["self"] (defScope s_Kind_parts) := ⟨rfl, rfl, rfl, by decide +kernel, rfl, by decide +kernel, by decide +kernel⟩
def sp_Kind_parts (K : Fg) : Sp := fun vs H Q _ => ∃ (a : Addr) (k : KindD), vs = [.ref a] ∧ KindAt K H a k ∧ ∀ p, H p = none → Q (.ref p) (upd H p (.tup (partsV k)))
theorem ok_Kind_parts (T : Tx W) : Fn W CX0 1 (ca "Kind" "parts" W.K) ["self"] (sp_Kind_parts W.K) := by
  obtain ⟨fd, F⟩ := T.d_Kind_parts
  refine ⟨⟨fd, ?_, F.bindsN fun _ _ _ _ _ _ us hl => match us, hl with | [_], _ => rfl⟩, F.kp⟩
  refine F.ok sc_Kind_parts (fun vs H Q E h => ?_) (fun cdv A outer s H vs Q E hr h => ?_)
  · obtain ⟨a, k, rfl, _⟩ := h
    rfl
  · obtain ⟨a, k, rfl, ⟨dx, ha⟩, q⟩ := h
    refine ⟨_, PSs.nox (pss_one (ps_ret (pe_tup (pa_cons (pe_fld (pv 0) rfl) (pa_cons (pe_fld (pv 0) rfl) (pa_cons (pe_fld (pv 0) rfl) (pa_cons (pe_fld (pv 0) rfl) (pa_cons (pe_fld (pv 0) rfl) pa_nil)))))))), ?_⟩
    have nfa : ∀ {g : Str}, g ∈ (["own_name", "own_group", "own_size", "own_width", "own_align"] : List Str) → NoAttr W.K (ga W.K "Kind") g := fun h => T.na_Kind h
    refine ⟨_, rfl, a, _, dx, _, _, rfl, ha, T.cls_Kind, nfa (by decide), rfl, _, rfl, a, _, dx, _, _, rfl, ha, T.cls_Kind, nfa (by decide), rfl, _, rfl, a, _, dx, _, _, rfl, ha, T.cls_Kind, nfa (by decide), rfl,
      _, rfl, a, _, dx, _, _, rfl, ha, T.cls_Kind, nfa (by decide), rfl, _, rfl, a, _, dx, _, _, rfl, ha, T.cls_Kind, nfa (by decide), rfl, ?_⟩
    exact ⟨by show 5 ≤ sizeLine; decide, q⟩
theorem paired_get {α β : Type} {R : α → β → Prop} : ∀ {l : List α} {m : List β}, Paired R l m → ∀ {i : Nat} {a : α}, l[i]? = some a → ∃ b, m[i]? = some b ∧ R a b
  | _, _, .nil, i, a, h => by cases h
  | _, _, .cons r t, 0, a, h => ⟨_, rfl, by cases h; exact r⟩
  | _, _, .cons r t, i + 1, a, h => paired_get t (i := i) h
theorem paired_mono {α β : Type} {R S : α → β → Prop} (f : ∀ a b, R a b → S a b) : ∀ {l : List α} {m : List β}, Paired R l m → Paired S l m
  | _, _, .nil => .nil
  | _, _, .cons r t => .cons (f _ _ r) (paired_mono f t)
/-! ### Book -/
def bookF (p q r : Addr) : List (Str × V) := [("own_kinds", .ref p), ("own_names", .ref q), ("own_parts", .ref r)]
structure BookAt (K : Fg) (H : Hp) (a : Addr) (as : List Addr) (ks : List KindD) : Prop where
  ex : ∃ dx p q r rs, H a = some (.ins (ga K "Book") dx (bookF p q r)) ∧ H p = some (.tup (as.map V.ref)) ∧ H q = some (.tup (ks.map fun k => V.str k.name)) ∧ H r = some (.tup ((rs : List Addr).map V.ref)) ∧
    Paired (fun b k => H b = some (.tup (partsV k))) rs ks
  kinds : Paired (KindAt K H) as ks
  few : ks.length ≤ 5
  some_ : ks ≠ []
  nd : (ks.map (·.name)).Nodup
  ok : ∀ k ∈ ks, k.ok = true
theorem sc_Book_init : FnScope ["self", "kinds", "kind", "names", "position", "name"] ["self", "kinds"] (defScope s_Book___init__) := ⟨rfl, rfl, rfl, by decide +kernel, rfl, by decide +kernel, by decide +kernel⟩
/-- behind the binding: self, the tuple of the kinds -/
def sp_Book_in (K : Fg) : Sp := fun vs H Q _ => ∃ (x dx p : Addr) (as : List Addr) (ks : List KindD), vs = [.ref x, .ref p] ∧ H p = some (.tup (as.map V.ref)) ∧ H x = some (.ins (ga K "Book") dx []) ∧ Paired (KindAt K H) as ks ∧ ks.length ≤ 5 ∧ ks ≠ [] ∧ (ks.map (·.name)).Nodup ∧ (∀ k ∈ ks, k.ok = true) ∧
  ∀ H', (∀ b o, b ≠ x → H b = some o → H' b = some o) → BookAt K H' x as ks → Q .non H'
theorem body_Book_init (T : Tx W) (cdv : Value) (A : Around) (outer : List Env) (s : Shared) (H : Hp) (vs : List V) (Q : VK) (E : XK) (hr : Room 2 (A.deeper (envOfC d_Book___init__.qual (defScope d_Book___init__.st) s.heap.objs.size (d_Book___init__.ad W.K) cdv))) (h : sp_Book_in W.K vs H Q E) :
    ∃ t, PSs (cxOf CX0 W.P W.w W.K W.mg W.base ["self", "kinds", "kind", "names", "position", "name"] d_Book___init__.qual (defScope d_Book___init__.st) (d_Book___init__.ad W.K) cdv A outer s H E) (defBody d_Book___init__.st) t ∧
      t { nx := fun _ H' => Q .non H', rt := Q } (start ["self", "kinds", "kind", "names", "position", "name"] vs) H := by
  obtain ⟨x, dx, p, as, ks, rfl, hp, hx, hk, few, some_, nd, ok, q⟩ := h
  refine ⟨_, PSs.nox (pss_cons (ps_for PassesOwn.never rfl (pi_tup (pv 1)) (pg_name (i := 2) sc_Book_init.nd rfl (Or.inl rfl)) (pss_one (ps_if (pt_not (pt_val (pe_callB call_isi (by rfl) T.f_isinstance (by decide +kernel) (pa_cons (pv 2) (pa_cons (pe_glob (v := .ref (ga W.K "Kind")) (by rfl) T.g_Kind rfl) pa_nil))))) pss_never pss_nil)))
    (pss_cons (ps_setLc (i := 3) (own := [("kind", 2)]) (g := gName 2) (tt := tYes) rfl sc_Book_init.nd rfl rfl rfl (pi_tup (pv 1)) (blkOk_by (N := ["self", "kinds", "kind", "names", "position", "name"]) (sc := defScope s_Book___init__) (by decide +kernel))
        (fun _ _ _ _ _ => pg_name (i := 2) sc_Book_init.nd rfl (Or.inl rfl)) (fun _ _ _ _ _ => pts_nil) (fun _ _ _ _ _ => u_prop (ok_Kind_name T) T.cls_Kind T.p_Kind_name hr (pv 2)))
    (pss_cons (ps_for PassesOwn.never rfl (pi_enum (by rfl) T.f_enumerate (pa_cons (pv 3) pa_nil)) (pg_tup rfl (pgs_cons (pg_name (i := 4) sc_Book_init.nd rfl (Or.inl rfl)) (pgs_cons (pg_name (i := 5) sc_Book_init.nd rfl (Or.inl rfl)) pgs_nil)))
        (pss_one (ps_if (pt_cmpR op_in_seq (pv 5) (pe_slice sl_list (pv 3) po_none (po_some (pv 4))) rfl) pss_never pss_nil)))
    (pss_cons (ps_if (pt_cmpR op_gt (pe_callB call_len_seq (by rfl) T.f_len (by decide +kernel) (pa_cons (pv 1) pa_nil)) (ClX.pe_cval (pe_glob (v := .ref (ga W.K "Book")) (by rfl) T.g_Book rfl)) (nomark _)) pss_never pss_nil)
    (pss_cons (ps_if (pt_cmpR op_eq (pe_callB call_len_seq (by rfl) T.f_len (by decide +kernel) (pa_cons (pv 1) pa_nil)) pe_int (nomark _)) pss_never pss_nil)
    (pss_cons (ps_fld (pv 0) (pe_callTy call_tuple_of (by rfl) T.f_tuple (by decide +kernel) (pa_cons (pv 1) pa_nil)) rfl)
    (pss_cons (ps_fld (pv 0) (pe_callTy call_tuple_of (by rfl) T.f_tuple (by decide +kernel) (pa_cons (pv 3) pa_nil)) rfl)
    (pss_one (ps_fld (pv 0) (pe_callTy call_tuple_of (by rfl) T.f_tuple (by decide +kernel) (pa_cons (pe_lc (own := [("kind", 2)]) (g := gName 2) (tt := tYes) rfl sc_Book_init.nd (pi_tup (pv 1)) (blkOk_by (N := ["self", "kinds", "kind", "names", "position", "name"]) (sc := defScope s_Book___init__) (by decide +kernel))
        (fun _ _ _ _ _ => pg_name (i := 2) sc_Book_init.nd rfl (Or.inl rfl)) (fun _ _ _ _ _ => pts_nil) (fun _ _ _ _ _ => u_meth0 (ok_Kind_parts T) T.cls_Kind T.m_Kind_parts hr (pv 2))) pa_nil)) rfl))))))))), ?_⟩
  have kAt : ∀ {i : Nat} {y : V}, (as.map V.ref)[i]? = some y → ∃ b k, y = .ref b ∧ as[i]? = some b ∧ ks[i]? = some k ∧ KindAt W.K H b k := by
    intro i y hy
    rw [List.getElem?_map] at hy
    cases e : as[i]? with
    | none =>
      rw [e] at hy
      cases hy
    | some b =>
      rw [e] at hy
      obtain ⟨k, hk1, hk2⟩ := paired_get hk e
      exact ⟨b, k, (Option.some.inj hy).symm, rfl, hk1, hk2⟩
  have lk : as.length = ks.length := hk.length
  have lz : as.length ≤ 5 := by omega
  refine ⟨_, rfl, p, rfl, ⟨_, SqT.of hp⟩, for_it (walk_tup (xs := as.map V.ref)) (fun i σ H' => H' = H ∧ ∃ v, σ = [some (.ref x), some (.ref p), v, none, none, none]) ⟨rfl, none, rfl⟩ (fun i σ H' _ h => by rw [h.1]; exact SqT.of hp) (fun i y σ H1 H2 hi hP hY => ?_) (fun σ H' hP => ?_)⟩
  · obtain ⟨rfl, v, rfl⟩ := hP
    obtain ⟨rfl, hy⟩ := hY
    obtain ⟨b, k, rfl, _, _, dk, hb⟩ := kAt hy
    refine ⟨_, rfl, _, _, _, _, _, rfl, .own _, T.ty_Kind.of T.cls_Kind hb, T.kk_Kind, _, rfl, ?_⟩
    exact ⟨rfl, _, rfl⟩
  · obtain ⟨rfl, v, rfl⟩ := hP
    refine ⟨_, rfl, p, rfl, ⟨_, SqT.of hp⟩, fun D hD => lc_pure (walk_tup (xs := as.map V.ref)) (ks.map fun k => V.str k.name) ?_ ?_ hD (fun u => SqT.of ?_) (fun i y z u H'' R R' hi hy hx r => ?_) ?_⟩
    · rw [List.length_map, List.length_map, lk]
    · rw [List.length_map]
      omega
    · rw [upd_ne (ne_of_none hp hD)]
      exact hp
    · obtain ⟨rfl, hx⟩ := hx
      obtain ⟨b, k, rfl, _, e2, dk, hb⟩ := kAt hx
      rw [List.getElem?_map, e2] at hy
      obtain rfl : V.str k.name = z := Option.some.inj hy
      have hb2 : upd H' D u b = some (.ins (ga W.K "Kind") dk (kindF k)) := by rw [upd_ne (ne_of_none hb hD)]; exact hb
      exact ⟨rfl, _, rfl, b, dk, _, rfl, hb2, b, dk, _, _, rfl, hb2, rfl, r⟩
    · generalize hN : (ks.map fun k => V.str k.name) = ns
      have hns : ns = (ks.map (·.name)).map V.str := by rw [← hN, List.map_map]; rfl
      have hnl : ns.length = ks.length := by rw [hns, List.length_map, List.length_map]
      have ex0 : Ex H' (upd H' D (.lst ns)) := (Ex.refl _).new hD
      refine ⟨_, rfl, D, _, rfl, SqL.of upd_same, for_it (walk_enum (xs := ns)) (fun i σ Hc => Ex (upd H' D (.lst ns)) Hc ∧ ∃ w z, σ = [some (.ref x), some (.ref p), v, some (.ref D), w, z]) ⟨Ex.refl _, none, none, rfl⟩ (fun i σ Hc _ h => SqL.of (h.1 D _ upd_same)) (fun i y σ H1 H2 hi hP hY => ?_) (fun σ Hc hP => ?_)⟩
      · obtain ⟨ec, w, z, rfl⟩ := hP
        obtain ⟨TT, a, b, rfl, hT, rfl, ha, hb⟩ := hY
        obtain rfl := Option.some.inj ha
        have hTD : upd H1 TT (.tup [V.int (i : Nat), b]) D = some (.lst ns) := by
          rw [upd_ne (ne_of_none (ec D _ upd_same) hT)]
          exact ec D _ upd_same
        refine ⟨TT, _, rfl, SqT.of upd_same, rfl, _, _, rfl, _, _, rfl, rfl, ?_⟩
        refine ⟨_, rfl, _, rfl, _, rfl, _, rfl, D, _, rfl, SqL.of hTD, fun q2 hq2 => ?_⟩
        rw [cut_lo]
        have hb' : ns[i]? = some b := hb
        obtain ⟨nm, rfl, hnm⟩ : ∃ nm, b = .str nm ∧ (ks.map (·.name))[i]? = some nm := by
          rw [hns, List.getElem?_map] at hb'
          cases e : (ks.map (·.name))[i]? with
          | none =>
            rw [e] at hb'
            cases hb'
          | some nm =>
            rw [e] at hb'
            exact ⟨nm, (Option.some.inj hb').symm, rfl⟩
        have hfalse : inV (.str nm) (ns.take i) = false := by
          rw [hns, ← List.map_take, inV_strs]
          refine decide_eq_false fun hm => ?_
          obtain ⟨j, hj, ej⟩ := List.mem_take_iff_getElem.mp hm
          obtain ⟨hi2, ei⟩ := List.getElem?_eq_some_iff.mp hnm
          have := (List.nodup_iff_pairwise_ne.mp nd)
          exact List.pairwise_iff_getElem.mp this j i (by omega) hi2 (by omega) (ej.trans ei.symm)
        refine ⟨q2, _, rfl, .inl (SqL.of upd_same), rfl, ?_, ?_⟩
        · rw [hns, ← List.map_take]
          exact flat_strs _
        · show ∃ k, V.bl (inV (.str nm) (ns.take i)) = .bl k ∧ _
          rw [hfalse]
          exact ⟨_, rfl, (ec.more hT).more hq2, _, _, rfl⟩
      · obtain ⟨ec, w, z, rfl⟩ := hP
        have e0 : Ex H' Hc := ex0.trans ec
        have hpc := e0 p _ hp
        have hxc := e0 x _ hx
        have lkI : ((as.map V.ref).length : Int) = (ks.length : Int) := by rw [List.length_map, lk]
        obtain ⟨rdB, uB, cvB⟩ := T.cv_Book_MOST_KINDS
        refine ⟨_, rfl, p, _, rfl, .inr (SqT.of hpc), _, _, .int 5, _, rfl, rdB, cvB, _, _, rfl, rfl, _, rfl, ?_⟩
        have e5 : decide ((5 : Int) < ((as.map V.ref).length : Int)) = false := decide_eq_false (by rw [lkI]; omega)
        rw [e5]
        refine ⟨_, rfl, p, _, rfl, .inr (SqT.of hpc), rfl, _, rfl, ?_⟩
        have ne0 : ks.length ≠ 0 := fun z => some_ (List.length_eq_zero_iff.mp z)
        rw [eI, decide_eq_false (show ¬ ((as.map V.ref).length : Int) = 0 by rw [lkI]; omega)]
        have nfa : ∀ {g : Str}, g ∈ (["own_kinds", "own_names", "own_parts"] : List Str) → NoAttr W.K (ga W.K "Book") g := fun h => T.na_Book h
        refine ⟨_, rfl, p, _, rfl, .inr ⟨SqT.of hpc, ?_⟩⟩
        refine ⟨_, rfl, x, _, dx, _, rfl, hxc, T.cls_Book, nfa (by decide), by decide, ?_⟩
        have hDc := ec D _ upd_same
        have xD : D ≠ x := (ne_of_none hx hD).symm
        refine ⟨_, rfl, D, _, rfl, .inl ⟨SqL.of (by rw [upd_ne xD]; exact hDc), fun l hl => ?_⟩⟩
        have xl : x ≠ l := ne_of_none (upd_same (H := Hc) (a := x)) hl
        refine ⟨_, rfl, x, _, dx, _, rfl, (upd_ne xl).trans upd_same, T.cls_Book, nfa (by decide), of_decide_eq_true (by kernel_rfl), ?_⟩
        generalize hH3 : upd (upd (upd Hc x (.ins (ga W.K "Book") dx (putF "own_kinds" (.ref p) []))) l (.tup ns)) x (.ins (ga W.K "Book") dx (putF "own_names" (.ref l) (putF "own_kinds" (.ref p) []))) = H3
        have x3 : H3 x = some (.ins (ga W.K "Book") dx (putF "own_names" (.ref l) (putF "own_kinds" (.ref p) []))) := by rw [← hH3]; exact upd_same
        have l3 : H3 l = some (.tup ns) := by rw [← hH3, upd_ne xl.symm]; exact upd_same
        have k3 : ∀ b o, b ≠ x → H' b = some o → H3 b = some o := fun b o hb h => by
          have hc := e0 b o h
          have bl : b ≠ l := ne_of_none (show upd Hc x (.ins (ga W.K "Book") dx (putF "own_kinds" (.ref p) [])) b = some o by rw [upd_ne hb]; exact hc) hl
          rw [← hH3, upd_ne hb, upd_ne bl, upd_ne hb]
          exact hc
        have px : p ≠ x := ne_of hp hx (by intro z; cases z)
        have kx : ∀ {b : Addr} {k : KindD}, KindAt W.K H' b k → b ≠ x := fun ⟨d, h⟩ => ne_of h hx (by
          intro z
          have z2 := HO.ins.inj z
          have z3 := z2.2.2
          cases z3)
        have hp3 := k3 p _ px hp
        refine ⟨_, rfl, p, rfl, ⟨_, SqT.of hp3⟩, fun D2 hD2 => lc_objs (walk_tup (xs := as.map V.ref)) ks (by rw [List.length_map, lk]) (by rw [List.length_map]; omega) hD2 (fun b k H => H b = some (.tup (partsV k))) (fun a k Ha Hb xs r hd e => e a _ (ne_of r hd (by intro z; cases z)) r) (fun Hb e => SqT.of (e p _ hp3))
          (fun i y k Hb Hb' Rq R' hi hk2 e hd hy r => ?_) (fun Hb rs e hd pr => ?_)⟩
        · obtain ⟨rfl, hy⟩ := hy
          obtain ⟨b, k', rfl, _, e2, dk, hb⟩ := kAt hy
          obtain rfl : k' = k := Option.some.inj (e2.symm.trans hk2)
          have hb3 := e b _ (k3 b _ (kx ⟨dk, hb⟩) hb)
          refine ⟨rfl, _, rfl, b, dk, _, rfl, hb3, rfl, b, k', rfl, ⟨dk, hb3⟩, fun p4 hp4 => r p4 _ (fun c o hc h => ?_) ?_ upd_same⟩
          · rw [upd_ne (ne_of_none h hp4)]
            exact h
          · obtain ⟨xs, hd⟩ := hd
            rw [upd_ne (ne_of_none hd hp4)]
        · refine ⟨D2, _, rfl, .inl ⟨SqL.of hd, fun l2 hl2 => ?_⟩⟩
          have xb := e x _ x3
          have xl2 : x ≠ l2 := ne_of_none xb hl2
          refine ⟨_, rfl, x, _, dx, _, rfl, (upd_ne xl2).trans xb, T.cls_Book, nfa (by decide), of_decide_eq_true (by kernel_rfl), ?_⟩
          have k4 : ∀ b o, b ≠ x → H3 b = some o → upd (upd Hb l2 (.tup (rs.map V.ref))) x (.ins (ga W.K "Book") dx (putF "own_parts" (.ref l2) (putF "own_names" (.ref l) (putF "own_kinds" (.ref p) [])))) b = some o := fun b o hb h => by
            have h2 := e b o h
            rw [upd_ne hb, upd_ne (ne_of_none h2 hl2)]
            exact h2
          refine q _ (fun b o hb h => k4 b o hb (k3 b o hb h)) ⟨⟨dx, p, l, l2, rs, ?_, k4 p _ px hp3, ?_, ?_, ?_⟩, ?_, few, some_, nd, ok⟩
          · rw [upd_same]
            rfl
          · rw [hN]
            exact k4 l _ xl.symm l3
          · rw [upd_ne xl2.symm]
            exact upd_same
          · exact paired_mono (fun b k h => by
              have bx : b ≠ x := ne_of h xb (by intro z; cases z)
              rw [upd_ne bx, upd_ne (ne_of_none h hl2)]
              exact h) pr
          · exact paired_mono (fun b k ⟨d, h⟩ => ⟨d, k4 b _ (kx ⟨d, h⟩) (k3 b _ (kx ⟨d, h⟩) h)⟩) hk
end
end U
/-! ## kinds.py: Book's methods -/
namespace U
open PySem PySem.Spec PyProof.Rows L2 StX
section
variable {W : Wd}
/-- Book(*kinds), by the kinds behind self -/
def sp_Book_init (K : Fg) : Sp := fun vs H Q _ => ∃ (x dx : Addr) (as : List Addr) (ks : List KindD), vs = .ref x :: as.map V.ref ∧ H x = some (.ins (ga K "Book") dx []) ∧ Paired (KindAt K H) as ks ∧ ks.length ≤ 5 ∧ ks ≠ [] ∧ (ks.map (·.name)).Nodup ∧ (∀ k ∈ ks, k.ok = true) ∧
  ∀ H', (∀ b o, b ≠ x → H b = some o → H' b = some o) → BookAt K H' x as ks → Q .non H'
theorem ok_Book_init (T : Tx W) : FnR W.P W.w W.K W.mg W.base CX0 3 (ca "Book" "__init__" W.K) (sp_Book_init W.K) := by
  obtain ⟨fd, F⟩ := T.d_Book___init__
  obtain ⟨oc, od, dV, kV, doc, pm, an, cdv, ct, osl, rfl, lk, hcd, hD, _⟩ := F.ex
  obtain rfl : dV = .none := by
    rcases hD with ⟨_, e⟩ | ⟨e, _⟩
    · exact e
    · exact absurd rfl e
  refine FnR.imp (fn_star (ps := ["self"]) (pv := "kinds") (N := ["self", "kinds", "kind", "names", "position", "name"]) (sp := sp_Book_in W.K) lk hcd sc_Book_init cxUp_none (by
    intro us rest hl
    match us, hl, rest with
    | [a], _, [] => rfl
    | [a], _, r :: rs => rfl) (fun A outer s H vs Q E hr h => body_Book_init T cdv A outer s H vs Q E hr h)) (fun vs H Q E h => ?_)
  obtain ⟨x, dx, as, ks, rfl, hx, hk, few, some_, nd, ok, q⟩ := h
  have lk2 : as.length = ks.length := hk.length
  refine ⟨[.ref x], as.map V.ref, rfl, rfl, by rw [List.length_map, sizeLine_eq]; omega, fun p hp => ?_⟩
  refine ⟨x, dx, p, as, ks, rfl, upd_same, ?_, ?_, few, some_, nd, ok, fun H' e b => q H' (fun c o hc h => e c o hc ?_) b⟩
  · rw [upd_ne (ne_of_none hx hp)]
    exact hx
  · exact paired_mono (fun b k ⟨d, h⟩ => ⟨d, by rw [upd_ne (ne_of_none h hp)]; exact h⟩) hk
  · rw [upd_ne (ne_of_none h hp)]
    exact h
/-! ### kinds, names -/
theorem nfB (T : Tx W) : ∀ {g : Str}, g ∈ (["own_kinds", "own_names", "own_parts"] : List Str) → NoAttr W.K (ga W.K "Book") g := fun h => T.na_Book h
theorem sc_Book_kinds : FnScope ["self"] ["self"] (defScope s_Book_kinds) := ⟨rfl, rfl, rfl, by decide +kernel, rfl, by decide +kernel, by decide +kernel⟩
def sp_Book_kinds (K : Fg) : Sp := fun vs H Q _ => ∃ (a : Addr) (as : List Addr) (ks : List KindD), vs = [.ref a] ∧ BookAt K H a as ks ∧ ∀ p, H p = none → Q (.ref p) (upd H p (.lst (as.map V.ref)))
theorem ok_Book_kinds (T : Tx W) : Fn W CX0 1 (ca "Book" "kinds" W.K) ["self"] (sp_Book_kinds W.K) := by
  obtain ⟨fd, F⟩ := T.d_Book_kinds
  refine ⟨⟨fd, ?_, F.bindsN fun _ _ _ _ _ _ us hl => match us, hl with | [_], _ => rfl⟩, F.kp⟩
  refine F.ok sc_Book_kinds (fun vs H Q E h => ?_) (fun cdv A outer s H vs Q E hr h => ?_)
  · obtain ⟨a, as, ks, rfl, _⟩ := h
    rfl
  · obtain ⟨a, as, ks, rfl, ⟨⟨dx, p, q, r, rs, h1, h2, h3, h4, h5⟩, hk, few, _⟩, k⟩ := h
    refine ⟨_, PSs.nox (pss_one (ps_ret (pe_callTy call_list_of (by rfl) T.f_list (by decide +kernel) (pa_cons (pe_fld (pv 0) rfl) pa_nil)))), ?_⟩
    exact ⟨_, rfl, a, _, dx, _, _, rfl, h1, T.cls_Book, nfB T (by decide), rfl, p, _, rfl, .inr (SqT.of h2), k⟩
theorem sc_Book_names : FnScope ["self"] ["self"] (defScope s_Book_names) := ⟨rfl, rfl, rfl, by decide +kernel, rfl, by decide +kernel, by decide +kernel⟩
def sp_Book_names (K : Fg) : Sp := fun vs H Q _ => ∃ (a : Addr) (as : List Addr) (ks : List KindD), vs = [.ref a] ∧ BookAt K H a as ks ∧ ∀ p, H p = none → Q (.ref p) (upd H p (.lst (ks.map fun k => V.str k.name)))
theorem ok_Book_names (T : Tx W) : Fn W CX0 1 (ca "Book" "names" W.K) ["self"] (sp_Book_names W.K) := by
  obtain ⟨fd, F⟩ := T.d_Book_names
  refine ⟨⟨fd, ?_, F.bindsN fun _ _ _ _ _ _ us hl => match us, hl with | [_], _ => rfl⟩, F.kp⟩
  refine F.ok sc_Book_names (fun vs H Q E h => ?_) (fun cdv A outer s H vs Q E hr h => ?_)
  · obtain ⟨a, as, ks, rfl, _⟩ := h
    rfl
  · obtain ⟨a, as, ks, rfl, ⟨⟨dx, p, q, r, rs, h1, h2, h3, h4, h5⟩, hk, few, _⟩, k⟩ := h
    refine ⟨_, PSs.nox (pss_one (ps_ret (pe_callTy call_list_of (by rfl) T.f_list (by decide +kernel) (pa_cons (pe_fld (pv 0) rfl) pa_nil)))), ?_⟩
    exact ⟨_, rfl, a, _, dx, _, _, rfl, h1, T.cls_Book, nfB T (by decide), rfl, q, _, rfl, .inr (SqT.of h3), k⟩
/-! ### x in book -/
theorem sc_Book_in : FnScope ["self", "x"] ["self", "x"] (defScope s_Book___contains__) := ⟨rfl, rfl, rfl, by decide +kernel, rfl, by decide +kernel, by decide +kernel⟩
def sp_Book_has (K : Fg) : Sp := fun vs H Q _ => ∃ (a : Addr) (as : List Addr) (ks : List KindD) (z : Str), vs = [.ref a, .str z] ∧ BookAt K H a as ks ∧ Q (.bl (decide (z ∈ ks.map (·.name)))) H
theorem ok_Book_has (T : Tx W) : Fn W CX0 1 (ca "Book" "__contains__" W.K) ["self", "x"] (sp_Book_has W.K) := by
  obtain ⟨fd, F⟩ := T.d_Book___contains__
  refine ⟨⟨fd, ?_, F.bindsN fun _ _ _ _ _ _ us hl => match us, hl with | [_, _], _ => rfl⟩, F.kp⟩
  refine F.ok sc_Book_in (fun vs H Q E h => ?_) (fun cdv A outer s H vs Q E hr h => ?_)
  · obtain ⟨a, as, ks, z, rfl, _⟩ := h
    rfl
  · obtain ⟨a, as, ks, z, rfl, ⟨⟨dx, p, q, r, rs, h1, h2, h3, h4, h5⟩, hk, few, _⟩, k⟩ := h
    refine ⟨_, PSs.nox (pss_one (ps_ret (pe_and (pe_callB call_isi (by rfl) T.f_isinstance (by decide +kernel) (pa_cons (pv 1) (pa_cons (pe_bltn (v := .ty "str") (by rfl) T.f_str (by decide +kernel) rfl) pa_nil)))
      (pe_one (pe_cmpR op_in_seq (pv 1) (pe_fld (pv 0) rfl) rfl))))), ?_⟩
    have e : (ks.map fun k => V.str k.name) = (ks.map (·.name)).map V.str := by rw [List.map_map]; rfl
    refine ⟨_, rfl, _, _, _, _, _, rfl, .ty _, .base (.str z), (show PySem.W.kitOne W.K (.type "str") (.type "str") = some true from kit_ty (by decide +kernel)), _, rfl, _, rfl, _, rfl, a, _, dx, _, _, rfl, h1, T.cls_Book, nfB T (by decide), rfl, q, _, rfl, .inr (SqT.of h3), rfl, ?_, ?_⟩
    · rw [e]
      exact flat_strs _
    · show Q (.bl (inV (.str z) (ks.map fun k => V.str k.name))) H
      rw [e, inV_strs]
      exact k
end
end U
/-! ## kinds.py: book + kind, book == book -/
namespace U
open PySem PySem.Spec PyProof.Rows L2 StX
section
variable {W : Wd}
theorem paired_snoc {α β : Type} {R : α → β → Prop} {l : List α} {m : List β} {a : α} {b : β} (h1 : Paired R l m) (h2 : R a b) : Paired R (l ++ [a]) (m ++ [b]) := by
  induction h1 with
  | nil => exact .cons h2 .nil
  | cons r t ih => exact .cons r ih
theorem sc_Book_add : FnScope ["self", "other"] ["self", "other"] (defScope s_Book___add__) := ⟨rfl, rfl, rfl, by decide +kernel, rfl, by decide +kernel, by decide +kernel⟩
def sp_Book_add (K : Fg) : Sp := fun vs H Q _ => ∃ (a b : Addr) (as : List Addr) (ks : List KindD) (k : KindD), vs = [.ref a, .ref b] ∧ BookAt K H a as ks ∧ KindAt K H b k ∧ ks.length < 5 ∧ k.name ∉ ks.map (·.name) ∧ k.ok = true ∧
  ∀ H' x, Ex H H' → H x = none → BookAt K H' x (as ++ [b]) (ks ++ [k]) → Q (.ref x) H'
theorem ok_Book_add (T : Tx W) : Fn W CX0 5 (ca "Book" "__add__" W.K) ["self", "other"] (sp_Book_add W.K) := by
  obtain ⟨fd, F⟩ := T.d_Book___add__
  refine ⟨⟨fd, ?_, F.bindsN fun _ _ _ _ _ _ us hl => match us, hl with | [_, _], _ => rfl⟩, F.kp⟩
  refine F.ok sc_Book_add (fun vs H Q E h => ?_) (fun cdv A outer s H vs Q E hr h => ?_)
  · obtain ⟨a, b, as, ks, k, rfl, _⟩ := h
    rfl
  · obtain ⟨a, b, as, ks, k, rfl, ⟨⟨dx, p, q, r, rs, h1, h2, h3, h4, h5⟩, hk, few, some_, nd, ok⟩, ⟨db, hb⟩, f5, nn, okk, kq⟩ := h
    refine ⟨_, PSs.nox (pss_one (ps_ret (pe_makeS2 T.mk_Book (ok_Book_init T) (hr.mono (by decide)) (by rfl) T.g_Book pass0 (pa_star (pe_fld (pv 0) rfl) (pa_cons (pv 1) pa_nil))))), ?_⟩
    refine ⟨_, rfl, a, _, dx, _, _, rfl, h1, T.cls_Book, nfB T (by decide), rfl, p, _, rfl, .inl (SqT.of h2), _, rfl, fun x dx2 nx ndx ne => ?_⟩
    have up : ∀ {c : Addr} {o : HO}, H c = some o → upd (upd H dx2 (.own x)) x (.ins (ga W.K "Book") dx2 []) c = some o := fun {c o} h => by
      rw [upd_ne (ne_of_none h nx), upd_ne (ne_of_none h ndx)]
      exact h
    refine ⟨x, dx2, as ++ [b], ks ++ [k], ?_, upd_same, paired_snoc (paired_mono (fun c k ⟨d, h⟩ => ⟨d, up h⟩) hk) ⟨db, up hb⟩, ?_, by simp, ?_, ?_, fun H' e hB => ⟨rfl, kq H' x (fun c o h => ?_) nx hB⟩⟩
    · rw [List.map_append]
      rfl
    · rw [List.length_append]
      show ks.length + 1 ≤ 5
      omega
    · rw [List.map_append, List.nodup_append]
      refine ⟨nd, by simp, ?_⟩
      intro u hu v hv
      simp only [List.map_cons, List.map_nil, List.mem_singleton] at hv
      rw [hv]
      exact fun z => nn (z ▸ hu)
    · intro k' hk'
      rcases List.mem_append.mp hk' with h | h
      · exact ok k' h
      · rw [List.mem_singleton.mp h]
        exact okk
    · exact e c o (ne_of_none h nx) (up h)
/-! ### == of books of the same kinds -/
def partsD (k : KindD) : PyData := .tuple [.str k.name, .str k.group, .int k.size, .int k.width, .int k.align]
def bookD (ks : List KindD) : PyData := .tuple (ks.map partsD)
theorem u64 {k : Nat} {A : Around} (hr : Room k A) : A.units + 64 < cLine := by
  have := hr.un
  omega
theorem letters_lt : ∀ x ∈ LETTERS.cps.toList, x < 128 := by
  have e : LETTERS.cps.toList = [97, 98, 99, 100, 101, 102, 103, 104, 105, 106, 107, 108, 109, 110, 111, 112, 113, 114, 115, 116, 117, 118, 119, 120, 121, 122] := by decide +kernel
  rw [e]
  decide
theorem strOk_of {z l : Str} (h : allIn l z = true) (hl : ∀ x ∈ l.cps.toList, x < 128) : PyData.strOk z = true := by
  unfold PyData.strOk
  rw [← Array.all_toList, List.all_eq_true]
  intro c hc
  have h2 := List.all_eq_true.mp h c hc
  have h3 := hl c (of_decide_eq_true h2)
  exact decide_eq_true (by omega)
theorem group_cases {z : Str} (h : isGroup z = true) : z = Str.ofString "whole" ∨ z = Str.ofString "float" := by
  have h2 : inV (.str z) ([Str.ofString "whole", Str.ofString "float"].map V.str) = true := h
  rw [inV_strs] at h2
  simpa using of_decide_eq_true h2
theorem lay_parts {k : KindD} (h : k.ok = true) : (partsD k).canLay0 = true := by
  obtain ⟨o1, o2⟩ := He.ba h
  obtain ⟨o3, _⟩ := He.ba o2
  have e1 : PyData.strOk k.name = true := strOk_of (He.ba (He.ba o1).2).2 letters_lt
  have e2 : PyData.strOk k.group = true := by
    rcases group_cases o3 with e | e <;> rw [e] <;> decide +kernel
  show (PyData.strOk k.name && (PyData.strOk k.group && (true && (true && (true && true))))) = true
  rw [e1, e2]
  rfl
theorem lay_all : ∀ {ks : List KindD}, (∀ k ∈ ks, k.ok = true) → PyData.canLayAll0 (ks.map partsD) = true
  | [], _ => rfl
  | k :: r, h => by
    show ((partsD k).canLay0 && PyData.canLayAll0 (r.map partsD)) = true
    rw [lay_parts (h k (.head _)), lay_all fun k hk => h k (.tail _ hk)]
    rfl
theorem depth_all : ∀ ks : List KindD, PyData.depthAll (ks.map partsD) ≤ 1
  | [] => Nat.zero_le _
  | k :: r => by
    have e : PyData.depthAll ((k :: r).map partsD) = max (partsD k).depth (PyData.depthAll (r.map partsD)) := by
      show PyData.depthAll (partsD k :: r.map partsD) = _
      simp [PyData.depthAll]
    have e2 : (partsD k).depth = 1 := by
      unfold partsD
      simp [PyData.depth, PyData.depthAll]
    have := depth_all r
    rw [e, e2]
    omega
theorem shaped_book {ks : List KindD} (h : ∀ k ∈ ks, k.ok = true) : SeqAt.shaped (bookD ks) = true := by
  unfold SeqAt.shaped
  have e1 : (bookD ks).canLay0 = true := lay_all h
  have e2 : (bookD ks).depth ≤ 64 := by
    have := depth_all ks
    have e : (bookD ks).depth = PyData.depthAll (ks.map partsD) + 1 := by
      unfold bookD
      simp [PyData.depth]
    omega
  rw [e1, decide_eq_true e2]
  rfl
theorem dp_parts {K : Fg} {H : Hp} {b : Addr} {k : KindD} (h : H b = some (.tup (partsV k))) : Dp K H (.ref b) (partsD k) :=
  .tup (SqT.of h) (.cons (.str _) (.cons (.str _) (.cons (.int _) (.cons (.int _) (.cons (.int _) .nil)))))
theorem dp_all {K : Fg} {H : Hp} {rs : List Addr} {ks : List KindD} (h : Paired (fun b k => H b = some (.tup (partsV k))) rs ks) : DpAll K H (rs.map V.ref) (ks.map partsD) := by
  induction h with
  | nil => exact .nil
  | cons r t ih => exact .cons (dp_parts r) ih
theorem sc_Book_eq : FnScope ["self", "other"] ["self", "other"] (defScope s_Book___eq__) := ⟨rfl, rfl, rfl, by decide +kernel, rfl, by decide +kernel, by decide +kernel⟩
def sp_Book_eq (K : Fg) : Sp := fun vs H Q _ => ∃ (a b : Addr) (as bs : List Addr) (ks : List KindD), vs = [.ref a, .ref b] ∧ BookAt K H a as ks ∧ BookAt K H b bs ks ∧ Q (.bl true) H
theorem ok_Book_eq (T : Tx W) : Fn W CX0 1 (ca "Book" "__eq__" W.K) ["self", "other"] (sp_Book_eq W.K) := by
  obtain ⟨fd, F⟩ := T.d_Book___eq__
  refine ⟨⟨fd, ?_, F.bindsN fun _ _ _ _ _ _ us hl => match us, hl with | [_, _], _ => rfl⟩, F.kp⟩
  refine F.ok sc_Book_eq (fun vs H Q E h => ?_) (fun cdv A outer s H vs Q E hr h => ?_)
  · obtain ⟨a, b, as, bs, ks, rfl, _⟩ := h
    rfl
  · obtain ⟨a, b, as, bs, ks, rfl, ⟨⟨dx, p, q, r, rs, h1, h2, h3, h4, h5⟩, hk, few, some_, nd, ok⟩, ⟨⟨dx', p', q', r', rs', h1', h2', h3', h4', h5'⟩, _⟩, k⟩ := h
    refine ⟨_, PSs.nox (pss_one (ps_ret (pe_and (pe_callB call_isi (by rfl) T.f_isinstance (by decide +kernel) (pa_cons (pv 1) (pa_cons (pe_glob (v := .ref (ga W.K "Book")) (by rfl) T.g_Book rfl) pa_nil)))
      (pe_one (pe_cmpR (op_eqD (u64 hr)) (pe_fld (pv 0) rfl) (pe_fld (pv 1) rfl) (nomark _)))))), ?_⟩
    refine ⟨_, rfl, _, _, _, _, _, rfl, .own _, T.ty_Book.of T.cls_Book h1', T.kk_Book, _, rfl, ?_⟩
    refine ⟨_, rfl, a, _, dx, _, _, rfl, h1, T.cls_Book, nfB T (by decide), rfl, _, rfl, b, _, dx', _, _, rfl, h1', T.cls_Book, nfB T (by decide), rfl, bookD ks, bookD ks, .tup (SqT.of h4) (dp_all h5), .tup (SqT.of h4') (dp_all h5'), shaped_book ok, shaped_book ok, ?_⟩
    rw [SeqAt.eqv_refl _ (SeqAt.canLay_of_shaped (shaped_book ok))]
    exact k
end
end U
/-! ## conventions.py: options -/
namespace U
open PySem PySem.Spec PyProof.Rows L2 StX
section
variable {W : Wd}
theorem sc_want_book : FnScope ["value"] ["value"] (defScope s_want_book) := ⟨rfl, rfl, rfl, by decide +kernel, rfl, by decide +kernel, by decide +kernel⟩
def sp_want_book (K : Fg) : Sp := fun vs H Q _ => ∃ (a dx : Addr) (fs : List (Str × V)), vs = [.ref a] ∧ H a = some (.ins (ga K "Book") dx fs) ∧ Q .non H
theorem ok_want_book (T : Tx W) : Fn W CX0 1 (ga W.K "want_book") ["value"] (sp_want_book W.K) := by
  obtain ⟨fd, F⟩ := T.d_want_book
  refine ⟨⟨fd, ?_, F.bindsN fun _ _ _ _ _ _ us hl => match us, hl with | [_], _ => rfl⟩, F.kp⟩
  refine F.ok sc_want_book (fun vs H Q E h => ?_) (fun cdv A outer s H vs Q E hr h => ?_)
  · obtain ⟨a, dx, fs, rfl, _⟩ := h
    rfl
  · obtain ⟨a, dx, fs, rfl, ha, k⟩ := h
    refine ⟨_, PSs.nox (pss_one (ps_if (pt_not (pt_val (pe_callB call_isi (by rfl) T.f_isinstance (by decide +kernel) (pa_cons (pv 0) (pa_cons (pe_glob (v := .ref (ga W.K "Book")) (by rfl) T.g_Book rfl) pa_nil))))) pss_never pss_nil)), ?_⟩
    exact ⟨_, rfl, _, _, _, _, _, rfl, .own _, T.ty_Book.of T.cls_Book ha, T.kk_Book, _, rfl, k⟩
theorem sc_want_convention : FnScope ["value"] ["value"] (defScope s_want_convention) := ⟨rfl, rfl, rfl, by decide +kernel, rfl, by decide +kernel, by decide +kernel⟩
def sp_want_convention (K : Fg) : Sp := fun vs H Q _ => ∃ (a dx : Addr) (fs : List (Str × V)), vs = [.ref a] ∧ H a = some (.ins (ga K "Convention") dx fs) ∧ Q .non H
theorem ok_want_convention (T : Tx W) : Fn W CX0 1 (ga W.K "want_convention") ["value"] (sp_want_convention W.K) := by
  obtain ⟨fd, F⟩ := T.d_want_convention
  refine ⟨⟨fd, ?_, F.bindsN fun _ _ _ _ _ _ us hl => match us, hl with | [_], _ => rfl⟩, F.kp⟩
  refine F.ok sc_want_convention (fun vs H Q E h => ?_) (fun cdv A outer s H vs Q E hr h => ?_)
  · obtain ⟨a, dx, fs, rfl, _⟩ := h
    rfl
  · obtain ⟨a, dx, fs, rfl, ha, k⟩ := h
    refine ⟨_, PSs.nox (pss_one (ps_if (pt_not (pt_val (pe_callB call_isi (by rfl) T.f_isinstance (by decide +kernel) (pa_cons (pv 0) (pa_cons (pe_glob (v := .ref (ga W.K "Convention")) (by rfl) T.g_Convention rfl) pa_nil))))) pss_never pss_nil)), ?_⟩
    exact ⟨_, rfl, _, _, _, _, _, rfl, .own _, T.ty_Convention.of T.cls_Convention ha, T.kk_Convention, _, rfl, k⟩
theorem sc_yes_or_no : FnScope ["truth"] ["truth"] (defScope s_yes_or_no) := ⟨rfl, rfl, rfl, by decide +kernel, rfl, by decide +kernel, by decide +kernel⟩
def yesNo (b : Bool) : Str := if b = true then Str.ofString "yes" else Str.ofString "no"
def sp_yes_or_no : Sp := fun vs H Q _ => ∃ b, vs = [.bl b] ∧ Q (.str (yesNo b)) H
theorem ok_yes_or_no (T : Tx W) : Fn W CX0 1 (ga W.K "yes_or_no") ["truth"] sp_yes_or_no := by
  obtain ⟨fd, F⟩ := T.d_yes_or_no
  refine ⟨⟨fd, ?_, F.bindsN fun _ _ _ _ _ _ us hl => match us, hl with | [_], _ => rfl⟩, F.kp⟩
  refine F.ok sc_yes_or_no (fun vs H Q E h => ?_) (fun cdv A outer s H vs Q E hr h => ?_)
  · obtain ⟨b, rfl, _⟩ := h
    rfl
  · obtain ⟨b, rfl, k⟩ := h
    refine ⟨_, PSs.nox (pss_one (ps_ret (pe_ifExp (pt_val (pv 0)) pe_str pe_str))), ?_⟩
    refine ⟨_, rfl, _, rfl, ?_⟩
    cases b with
    | true => exact k
    | false => exact k
/-! ### fills told by a dict -/
/-- a fill by its name: the object, the fill -/
abbrev Ent := Str × Addr × FillD
def entK (es : List Ent) : List (Key × V) := es.map fun e => (Sum.inr e.1, .ref e.2.1)
/-- at d: a dict of fills by names -/
def FillsAt (K : Fg) (H : Hp) (d : Addr) (es : List Ent) : Prop := H d = some (.dK (entK es)) ∧ ∀ e ∈ es, FillAt K H e.2.1 e.2.2
theorem ent_val {n : Str} : ∀ {es : List Ent}, n ∈ es.map (·.1) → ∃ e ∈ es, valV (entK es) (Sum.inr n) = some (.ref e.2.1) ∧ e.1 = n
  | [], h => by cases h
  | e :: r, h => by
    by_cases q : e.1 = n
    · exact ⟨e, .head _, valV_pos (p := ((Sum.inr e.1 : Key), V.ref e.2.1)) (by rw [q]), q⟩
    · have h2 : n ∈ r.map (·.1) := by
        rcases List.mem_cons.mp h with z | z
        · exact absurd z.symm q
        · exact z
      obtain ⟨e', m, v, q'⟩ := ent_val h2
      exact ⟨e', .tail _ m, (valV_neg (p := ((Sum.inr e.1 : Key), V.ref e.2.1)) (fun z => q (Sum.inr.inj z))).trans v, q'⟩
theorem sc_is_fills : FnScope ["book", "value", "name"] ["book", "value"] (defScope s_is_fills) := ⟨rfl, rfl, rfl, by decide +kernel, rfl, by decide +kernel, by decide +kernel⟩
def sp_is_fills (K : Fg) : Sp := fun vs H Q _ => ∃ (b : Addr) (v : V), vs = [.ref b, v] ∧ ((v = .non ∧ Q (.bl true) H) ∨
  ∃ d es as ks, v = .ref d ∧ BookAt K H b as ks ∧ FillsAt K H d es ∧ (∀ e ∈ es, e.1 ∈ ks.map (·.name)) ∧ es.length ≤ 5 ∧ ∀ H', Ex H H' → Q (.bl true) H')
theorem ok_is_fills (T : Tx W) : Fn W CX0 2 (ga W.K "is_fills") ["book", "value"] (sp_is_fills W.K) := by
  obtain ⟨fd, F⟩ := T.d_is_fills
  refine ⟨⟨fd, ?_, F.bindsN fun _ _ _ _ _ _ us hl => match us, hl with | [_, _], _ => rfl⟩, F.kp⟩
  obtain ⟨fdB, FB, bB⟩ := (ok_Book_has T).ex
  refine F.ok sc_is_fills (fun vs H Q E h => ?_) (fun cdv A outer s H vs Q E hr h => ?_)
  · obtain ⟨b, v, rfl, _⟩ := h
    rfl
  · obtain ⟨b, v, rfl, h⟩ := h
    refine ⟨_, PSs.nox (pss_cons (ps_if (pt_cmpR op_isN (pv 1) pe_non (nomark _)) (pss_one (ps_ret pe_bl)) pss_nil)
      (pss_cons (ps_if (pt_not (pt_val (pe_callB call_isi (by rfl) T.f_isinstance (by decide +kernel) (pa_cons (pv 1) (pa_cons (pe_bltn (v := .ty "dict") (by rfl) T.f_dict (by decide +kernel) rfl) pa_nil))))) (pss_one (ps_ret pe_bl)) pss_nil)
      (pss_one (ps_lock (ps_ret (pe_callB (cr_all rfl) (by rfl) T.f_all (by decide +kernel) (pa_cons (pe_lc (own := [("name", 2)]) (g := gName 2) (tt := tYes) rfl sc_is_fills.nd (pi_keys (pv 1)) (blkOk_by (N := ["book", "value", "name"]) (sc := defScope s_is_fills) (by decide +kernel))
          (fun _ _ _ _ _ => pg_name (i := 2) sc_is_fills.nd rfl (Or.inl rfl)) (fun _ _ _ _ _ => pts_nil)
          (fun _ _ _ _ _ => pe_and (pe_cmpR (op_ownIn T.in_Book FB (hr.mono (by decide)) bB) (pv 2) (pv 0) rfl)
            (pe_one (pe_callB (id := "isinstance") (r := rIsi W.K) call_isi (by rfl) T.f_isinstance (by decide +kernel) (pa_cons (pe_dget (hu_of hr) (pv 1) (pv 2) (fun _ _ => rfl)) (pa_cons (pe_glob (v := .ref (ga W.K "Fill")) (by rfl) T.g_Fill rfl) pa_nil)))))) pa_nil))))))), ?_⟩
    rcases h with ⟨rfl, k⟩ | ⟨d, es, as, ks, rfl, hB, ⟨hd, hes⟩, hin, few, k⟩
    · refine ⟨_, rfl, rfl, _, rfl, ?_⟩
      rw [decide_eq_true rfl]
      exact k
    · refine ⟨_, rfl, rfl, _, rfl, ?_⟩
      rw [decide_eq_false (show ¬ V.ref d = V.non by intro z; cases z)]
      refine ⟨_, rfl, _, _, _, _, _, rfl, .ty _, .base (.dK hd), (show PySem.W.kitOne W.K (.type "dict") (.type "dict") = some true from kit_ty (by decide +kernel)), _, rfl, ?_⟩
      refine ⟨d, _, hd, True.intro, fun od => ?_⟩
      have ne : ∀ {c : Addr} {o : HO}, H c = some o → (∀ kvs, o ≠ .dK kvs) → c ≠ d := fun {c o} h n => ne_of h hd (n _)
      have upf : ∀ {c : Addr} {o : HO}, H c = some o → (∀ kvs, o ≠ .dK kvs) → upd H d (.frz od (.dK (entK es))) c = some o := fun {c o} h n => by
        rw [upd_ne (ne h n)]
        exact h
      refine ⟨_, rfl, d, od, rfl, .inl ⟨_, upd_same, fun D hD => lc_pure walk_keys (es.map fun _ => V.bl true) ?_ ?_ hD (fun u => ?_) (fun i y z u H'' R R' hi hy hx r => ?_) ?_⟩⟩
      · rw [List.length_map]
        unfold entK
        rw [List.length_map]
      · unfold entK
        rw [List.length_map]
        omega
      · rw [upd_ne (ne_of_none upd_same hD)]
        exact upd_same
      · obtain ⟨rfl, kk, v, hkv, rfl⟩ := hx
        obtain ⟨e, he, he2⟩ : ∃ e, es[i]? = some e ∧ (Sum.inr e.1, V.ref e.2.1) = (kk, v) := by
          unfold entK at hkv
          rw [List.getElem?_map] at hkv
          cases q : es[i]? with
          | none =>
            rw [q] at hkv
            cases hkv
          | some e =>
            rw [q] at hkv
            exact ⟨e, rfl, Option.some.inj hkv⟩
        cases he2
        obtain rfl : V.bl true = z := by
          rw [List.getElem?_map, he] at hy
          exact Option.some.inj hy
        have mem := List.mem_of_getElem? he
        have dD : d ≠ D := ne_of_none upd_same hD
        have up2 : ∀ {c : Addr} {o : HO}, H c = some o → (∀ kvs, o ≠ .dK kvs) → upd (upd H d (.frz od (.dK (entK es)))) D u c = some o := fun {c o} h n => by
          rw [upd_ne (ne_of_none (upf h n) hD)]
          exact upf h n
        obtain ⟨⟨dx, p, q, r2, rs, h1, h2, h3, h4, h5⟩, hk, few2, some_, nd, ok⟩ := hB
        have hB2 : BookAt W.K (upd (upd H d (.frz od (.dK (entK es)))) D u) b as ks := ⟨⟨dx, p, q, r2, rs, up2 h1 (by intro _ z; cases z), up2 h2 (by intro _ z; cases z), up2 h3 (by intro _ z; cases z), up2 h4 (by intro _ z; cases z),
          paired_mono (fun _ _ h => up2 h (by intro _ z; cases z)) h5⟩, paired_mono (fun _ _ ⟨dk, h⟩ => ⟨dk, up2 h (by intro _ z; cases z)⟩) hk, few2, some_, nd, ok⟩
        obtain ⟨e', he', hv', _⟩ := ent_val (n := e.1) (List.mem_map_of_mem mem)
        obtain ⟨df, hf⟩ := hes e' he'
        refine ⟨rfl, _, rfl, _, rfl, b, dx, _, rfl, up2 h1 (by intro _ z; cases z), b, as, ks, e.1, rfl, hB2, _, rfl, ?_⟩
        rw [decide_eq_true (hin e mem)]
        refine ⟨_, rfl, _, rfl, _, rfl, d, _, rfl, .inl ⟨entK es, Sum.inr e.1, .inr ⟨od, ?_⟩, rfl, hv'.symm⟩, ?_⟩
        · rw [upd_ne dD]
          exact upd_same
        · exact ⟨_, _, _, _, _, rfl, .own _, T.ty_Fill.of T.cls_Fill (up2 hf (by intro _ z; cases z)), T.kk_Fill, r⟩
      · have dD : d ≠ D := ne_of_none upd_same hD
        refine ⟨D, es.map fun _ => true, ?_, SqL.of ?_, ?_, ?_⟩
        · rfl
        · rw [upd_same, List.map_map]
          rfl
        · rw [upd_ne dD]
          exact upd_same
        · have e1 : (es.map fun _ => true).all id = true := by
            rw [List.all_map, List.all_eq_true]
            intro _ _
            rfl
          rw [e1]
          refine k _ fun c o h => ?_
          by_cases q : c = d
          · rw [q] at h ⊢
            rw [upd_same, ← hd]
            exact h.symm ▸ rfl
          · have h2 : upd H d (.frz od (.dK (entK es))) c = some o := by
              rw [upd_ne q]
              exact h
            rw [upd_ne q, upd_ne (ne_of_none h2 hD)]
            exact h2
end
end U
/-! ## conventions.py: is_option -/
namespace U
open PySem PySem.Spec PyProof.Rows L2 StX
section
variable {W : Wd}
theorem sc_is_option : FnScope ["book", "name", "value"] ["book", "name", "value"] (defScope s_is_option) := ⟨rfl, rfl, rfl, by decide +kernel, rfl, by decide +kernel, by decide +kernel⟩
/-- an option's value, but for the fills -/
inductive OptOk : Str → V → Prop where
  | together (b : Bool) : OptOk "together" (.bl b)
  | again (b : Bool) : OptOk "again" (.bl b)
  | natural (b : Bool) : OptOk "natural" (.bl b)
  | doubles (z : Str) (h : z = Str.ofString "whole" ∨ z = Str.ofString "even" ∨ z = Str.ofString "split") : OptOk "doubles" (.str z)
  | tail (z : Str) (h : z = Str.ofString "same" ∨ z = Str.ofString "slots") : OptOk "tail" (.str z)
  | slot (i : Int) (h : i = 4 ∨ i = 8) : OptOk "slot" (.int i)
  | home (i : Int) (h : i = 0 ∨ i = 16 ∨ i = 32) : OptOk "home" (.int i)
  | wholes (i : Int) (h : 0 ≤ i ∧ i ≤ 3) : OptOk "wholes" (.int i)
  | floats (i : Int) (h : 0 ≤ i ∧ i ≤ 3) : OptOk "floats" (.int i)
def sp_is_option (K : Fg) : Sp := fun vs H Q E => ∃ (b : Addr) (n : Str) (v : V), vs = [.ref b, .str n, v] ∧ ((OptOk n v ∧ ∀ H', Ex H H' → Q (.bl true) H') ∨
  (n = Str.ofString "fills" ∧ ∀ H1, Ex H H1 → sp_is_fills K [.ref b, v] H1 Q E0))
theorem ok_is_option (T : Tx W) : Fn W CX0 3 (ga W.K "is_option") ["book", "name", "value"] (sp_is_option W.K) := by
  obtain ⟨fd, F⟩ := T.d_is_option
  obtain ⟨t1, c1⟩ := T.c_MOST_REGISTERS_conventions
  refine ⟨⟨fd, ?_, F.bindsN fun _ _ _ _ _ _ us hl => match us, hl with | [_, _, _], _ => rfl⟩, F.kp⟩
  refine F.ok sc_is_option (fun vs H Q E h => ?_) (fun cdv A outer s H vs Q E hr h => ?_)
  · obtain ⟨b, n, v, rfl, _⟩ := h
    rfl
  · obtain ⟨b, n, v, rfl, h⟩ := h
    refine ⟨_, PSs.nox (pss_cons (ps_if (pt_cmpR op_in_seq (pv 1) (pe_tup (pa_cons pe_str (pa_cons pe_str (pa_cons pe_str pa_nil)))) rfl)
        (pss_one (ps_ret (pe_callB call_isi (by rfl) T.f_isinstance (by decide +kernel) (pa_cons (pv 2) (pa_cons (pe_bltn (v := .ty "bool") (by rfl) T.f_bool (by decide +kernel) rfl) pa_nil))))) pss_nil)
      (pss_cons (ps_if (pt_cmpR op_eq (pv 1) pe_str (nomark _))
        (pss_one (ps_ret (pe_and (pe_callB call_isi (by rfl) T.f_isinstance (by decide +kernel) (pa_cons (pv 2) (pa_cons (pe_bltn (v := .ty "str") (by rfl) T.f_str (by decide +kernel) rfl) pa_nil))) (pe_one (pe_cmpR op_in_seq (pv 2) (pe_tup (pa_cons pe_str (pa_cons pe_str (pa_cons pe_str pa_nil)))) rfl))))) pss_nil)
      (pss_cons (ps_if (pt_cmpR op_eq (pv 1) pe_str (nomark _))
        (pss_one (ps_ret (pe_and (pe_callB call_isi (by rfl) T.f_isinstance (by decide +kernel) (pa_cons (pv 2) (pa_cons (pe_bltn (v := .ty "str") (by rfl) T.f_str (by decide +kernel) rfl) pa_nil))) (pe_one (pe_cmpR op_in_seq (pv 2) (pe_tup (pa_cons pe_str (pa_cons pe_str pa_nil))) rfl))))) pss_nil)
      (pss_cons (ps_if (pt_cmpR op_eq (pv 1) pe_str (nomark _)) (pss_one (ps_ret (u_call (ok_is_fills T) T.g_is_fills hr (pa_cons (pv 0) (pa_cons (pv 2) pa_nil))))) pss_nil)
      (pss_cons (ps_if (pt_not (pt_val (u_call (ok_is_integer T) T.g_is_integer hr (pa_cons (pv 2) pa_nil)))) (pss_one (ps_ret pe_bl)) pss_nil)
      (pss_cons (ps_if (pt_cmpR op_eq (pv 1) pe_str (nomark _)) (pss_one (ps_ret (pe_cmpR op_in_seq (pv 2) (pe_tup (pa_cons pe_int (pa_cons pe_int pa_nil))) rfl))) pss_nil)
      (pss_one (ps_ret (pe_ifExp (pt_cmpR op_eq (pv 1) pe_str (nomark _)) (pe_cmpR op_in_seq (pv 2) (pe_tup (pa_cons pe_int (pa_cons pe_int (pa_cons pe_int pa_nil)))) rfl) (pe_chain op_le op_le pe_int (pv 2) (pe_glob (v := .int 3) (by rfl) c1 ⟨_, rfl⟩))))))))))), ?_⟩
    refine ⟨_, rfl, by show 3 ≤ sizeLine; decide, fun t2 ht2 => ⟨t2, _, rfl, .inr (SqT.of upd_same), rfl, rfl, ?_⟩⟩
    generalize hH : upd H t2 _ = H1
    have e1 : Ex H H1 := by rw [← hH]; exact (Ex.refl H).new ht2
    rcases h with ⟨hv, k⟩ | ⟨rfl, k⟩
    · have kb : PySem.W.kitOne W.K (.type "bool") (.type "bool") = some true := kit_ty (by decide +kernel)
      have ks : PySem.W.kitOne W.K (.type "str") (.type "str") = some true := kit_ty (by decide +kernel)
      cases hv with
      | together x => exact ⟨_, rfl, _, rfl, _, _, _, _, _, rfl, .ty _, .base (.bl x), kb, k H1 e1⟩
      | again x => exact ⟨_, rfl, _, rfl, _, _, _, _, _, rfl, .ty _, .base (.bl x), kb, k H1 e1⟩
      | natural x => exact ⟨_, rfl, _, rfl, _, _, _, _, _, rfl, .ty _, .base (.bl x), kb, k H1 e1⟩
      | doubles z hz =>
        refine ⟨_, rfl, _, rfl, rfl, _, rfl, _, rfl, _, _, _, _, _, rfl, .ty _, .base (.str z), ks, _, rfl, _, rfl, by show 3 ≤ sizeLine; decide, fun t3 ht3 => ⟨t3, _, rfl, .inr (SqT.of upd_same), rfl, rfl, ?_⟩⟩
        have e : inV (.str z) [.str "whole", .str "even", .str "split"] = true := by
          rcases hz with h | h | h <;> rw [h] <;> decide +kernel
        show Q (.bl (inV (.str z) [.str "whole", .str "even", .str "split"])) _
        rw [e]
        exact k _ (e1.more ht3)
      | tail z hz =>
        refine ⟨_, rfl, _, rfl, rfl, _, rfl, _, rfl, rfl, _, rfl, _, rfl, _, _, _, _, _, rfl, .ty _, .base (.str z), ks, _, rfl, _, rfl, by show 2 ≤ sizeLine; decide, fun t3 ht3 => ⟨t3, _, rfl, .inr (SqT.of upd_same), rfl, rfl, ?_⟩⟩
        have e : inV (.str z) [.str "same", .str "slots"] = true := by
          rcases hz with h | h <;> rw [h] <;> decide +kernel
        show Q (.bl (inV (.str z) [.str "same", .str "slots"])) _
        rw [e]
        exact k _ (e1.more ht3)
      | slot i hi =>
        refine ⟨_, rfl, _, rfl, rfl, _, rfl, _, rfl, rfl, _, rfl, _, rfl, rfl, _, rfl, _, rfl, _, rfl, rfl, _, rfl, _, rfl, rfl, _, rfl, _, rfl, by show 2 ≤ sizeLine; decide, fun t3 ht3 => ⟨t3, _, rfl, .inr (SqT.of upd_same), rfl, rfl, ?_⟩⟩
        have e : inV (.int i) [.int 4, .int 8] = true := by
          rcases hi with h | h <;> rw [h] <;> rfl
        show Q (.bl (inV (.int i) [.int 4, .int 8])) _
        rw [e]
        exact k _ (e1.more ht3)
      | home i hi =>
        refine ⟨_, rfl, _, rfl, rfl, _, rfl, _, rfl, rfl, _, rfl, _, rfl, rfl, _, rfl, _, rfl, _, rfl, rfl, _, rfl, _, rfl, rfl, _, rfl, _, rfl, rfl, _, rfl, _, rfl, by show 3 ≤ sizeLine; decide, fun t3 ht3 => ⟨t3, _, rfl, .inr (SqT.of upd_same), rfl, rfl, ?_⟩⟩
        have e : inV (.int i) [.int 0, .int 16, .int 32] = true := by
          rcases hi with h | h | h <;> rw [h] <;> rfl
        show Q (.bl (inV (.int i) [.int 0, .int 16, .int 32])) _
        rw [e]
        exact k _ (e1.more ht3)
      | wholes i hi =>
        refine ⟨_, rfl, _, rfl, rfl, _, rfl, _, rfl, rfl, _, rfl, _, rfl, rfl, _, rfl, _, rfl, _, rfl, rfl, _, rfl, _, rfl, rfl, _, rfl, _, rfl, rfl, _, rfl, _, rfl, _, _, rfl, rfl, _, rfl, ?_⟩
        rw [decide_eq_true hi.1]
        refine ⟨_, _, rfl, rfl, ?_⟩
        show Q (.bl (decide (i ≤ 3))) H1
        rw [decide_eq_true hi.2]
        exact k H1 e1
      | floats i hi =>
        refine ⟨_, rfl, _, rfl, rfl, _, rfl, _, rfl, rfl, _, rfl, _, rfl, rfl, _, rfl, _, rfl, _, rfl, rfl, _, rfl, _, rfl, rfl, _, rfl, _, rfl, rfl, _, rfl, _, rfl, _, _, rfl, rfl, _, rfl, ?_⟩
        rw [decide_eq_true hi.1]
        refine ⟨_, _, rfl, rfl, ?_⟩
        show Q (.bl (decide (i ≤ 3))) H1
        rw [decide_eq_true hi.2]
        exact k H1 e1
    · exact ⟨_, rfl, _, rfl, rfl, _, rfl, _, rfl, rfl, _, rfl, _, rfl, rfl, _, rfl, _, rfl, _, rfl, k H1 e1⟩
end
end U
/-! ## conventions.py: all_fills -/
namespace U
open PySem PySem.Spec PyProof.Rows L2 StX
section
variable {W : Wd}
def freeF : FillD := ⟨FREE, .non⟩
theorem freeF_ok : freeF.Ok := .inl ⟨rfl, rfl⟩
/-- the fill that a dict tells of a name -/
def toldF (es : List Ent) (n : Str) : FillD := match es.find? (fun e => decide (e.1 = n)) with
  | some e => e.2.2
  | none => freeF
theorem ent_find (n : Str) : ∀ es : List Ent, valV (entK es) (Sum.inr n) = (es.find? fun e => decide (e.1 = n)).map fun e => V.ref e.2.1
  | [] => rfl
  | e :: r => by
    by_cases q : e.1 = n
    · rw [List.find?_cons_of_pos (by simpa using q)]
      exact valV_pos (p := ((Sum.inr e.1 : Key), V.ref e.2.1)) (by rw [q])
    · rw [List.find?_cons_of_neg (by simpa using q)]
      exact (valV_neg (p := ((Sum.inr e.1 : Key), V.ref e.2.1)) (fun z => q (Sum.inr.inj z))).trans (ent_find n r)
theorem merge_new : ∀ (more kvs : List (Key × V)), ((kvs ++ more).map (·.1)).Nodup → mergeK kvs more = kvs ++ more
  | [], kvs, _ => (List.append_nil kvs).symm
  | p :: r, kvs, h => by
    have hn : p.1 ∉ kvs.map (·.1) := by
      rw [List.map_append, List.nodup_append] at h
      intro hm
      exact h.2.2 p.1 hm p.1 (by simp) rfl
    have e : putK kvs p.1 p.2 = kvs ++ [p] := by
      unfold putK
      rw [if_neg]
      intro hc
      obtain ⟨x, hx, hx2⟩ := List.any_eq_true.mp hc
      exact hn (List.mem_map.mpr ⟨x, hx, of_decide_eq_true hx2⟩)
    show mergeK (putK kvs p.1 p.2) r = _
    rw [e, merge_new r (kvs ++ [p]) (by rw [List.append_assoc]; exact h), List.append_assoc]
    rfl
theorem ents_of {K : Fg} {H : Hp} {es : List Ent} {rs : List Addr} {ks : List KindD} (h : Paired (fun a (k : KindD) => ∃ f, H a = some (.tup [.str k.name, .ref f]) ∧ FillAt K H f (toldF es k.name)) rs ks) :
    ∃ es' : List Ent, Paired (fun p (kv : Key × V) => SqT K H p [kV kv.1, kv.2]) rs (entK es') ∧ (es'.map fun e => (e.1, e.2.2)) = (ks.map fun k => (k.name, toldF es k.name)) ∧ ∀ e ∈ es', FillAt K H e.2.1 e.2.2 := by
  induction h with
  | nil => exact ⟨[], .nil, rfl, fun e h => by cases h⟩
  | @cons a k rs ks r t ih =>
    obtain ⟨es', h1, h2, h3⟩ := ih
    obtain ⟨f, r1, r2⟩ := r
    refine ⟨(k.name, f, toldF es k.name) :: es', .cons (SqT.of r1) h1, ?_, fun e he => ?_⟩
    · rw [List.map_cons, List.map_cons, h2]
    · rcases List.mem_cons.mp he with z | z
      · rw [z]
        exact r2
      · exact h3 e z
theorem ent_nodup {es' : List Ent} {l : List (Str × FillD)} (h : (es'.map fun e => (e.1, e.2.2)) = l) (nd : (l.map (·.1)).Nodup) : ((entK es').map (·.1)).Nodup := by
  have e : (entK es').map (·.1) = (l.map (·.1)).map Sum.inr := by
    rw [← h]
    unfold entK
    rw [List.map_map, List.map_map, List.map_map]
    rfl
  rw [e]
  exact List.Pairwise.map _ (fun a b n z => n (Sum.inr.inj z)) nd
theorem sc_all_fills : FnScope ["book", "fills", "told", "name"] ["book", "fills"] (defScope s_all_fills) := ⟨rfl, rfl, rfl, by decide +kernel, rfl, by decide +kernel, by decide +kernel⟩
def sp_all_fills (K : Fg) : Sp := fun vs H Q _ => ∃ (b : Addr) (v : V) (as : List Addr) (ks : List KindD) (es : List Ent), vs = [.ref b, v] ∧ BookAt K H b as ks ∧ ((v = .non ∧ es = []) ∨ ∃ d, v = .ref d ∧ FillsAt K H d es) ∧
  ∀ H' p es', Ex H H' → H p = none → FillsAt K H' p es' → (es'.map fun e => (e.1, e.2.2)) = (ks.map fun k => (k.name, toldF es k.name)) → Q (.ref p) H'
theorem ok_all_fills (T : Tx W) : Fn W CX0 6 (ga W.K "all_fills") ["book", "fills"] (sp_all_fills W.K) := by
  obtain ⟨fd, F⟩ := T.d_all_fills
  refine ⟨⟨fd, ?_, F.bindsN fun _ _ _ _ _ _ us hl => match us, hl with | [_, _], _ => rfl⟩, F.kp⟩
  refine F.ok sc_all_fills (fun vs H Q E h => ?_) (fun cdv A outer s H vs Q E hr h => ?_)
  · obtain ⟨b, v, as, ks, es, rfl, _⟩ := h
    rfl
  · obtain ⟨b, v, as, ks, es, rfl, hB, hv, k⟩ := h
    refine ⟨_, PSs.nox (pss_cons (ps_set (i := 2) sc_all_fills.nd rfl (Or.inr rfl) (pe_ifExp (pt_cmpR op_isN (pv 1) pe_non (nomark _)) pe_dnewK (pv 1)))
      (pss_one (ps_ret (pe_callTy (call_dictP rfl) (by rfl) T.f_dict (by decide +kernel) (pa_cons (pe_lc (own := [("name", 3)]) (g := gName 3) (tt := tYes) rfl sc_all_fills.nd (pi_list (u_meth0 (ok_Book_names T) T.cls_Book T.m_Book_names hr (pv 0))) (blkOk_by (N := ["book", "fills", "told", "name"]) (sc := defScope s_all_fills) (by decide +kernel))
        (fun _ _ _ _ _ => pg_name (i := 3) sc_all_fills.nd rfl (Or.inl rfl)) (fun _ _ _ _ _ => pts_nil)
        (fun _ _ _ _ _ => pe_tup (pa_cons (pv 3) (pa_cons (pe_dget2 (hu_of hr) (pv 2) (pv 3) (u_make0D (ok_Fill_init0 T) T.mk_Fill T.g_Fill hr) ⟨rfl, rfl, rfl, rfl⟩) pa_nil)))) pa_nil))))), ?_⟩
    have lnm : ks.length ≤ 5 := hB.few
    have fin : ∀ (H1 : Hp) (d : Addr) (w : V), w = .ref d → Ex H H1 → FillsAt W.K H1 d es →
        tRet (tCB (fun xs H Q => ∃ (a : Addr) (ps : List Addr) (kvs : List (Key × V)), xs = [.ref a] ∧ SqL W.K H a (ps.map V.ref) ∧ Paired (fun p kv => SqT W.K H p [kV kv.1, kv.2]) ps kvs ∧ ∀ p, H p = none → Q (.ref p) (upd H p (.dK (mergeK [] kvs))))
          (tCons (tLc (iList W.K (tMeth (ga W.K "Book") "names" (sp_Book_names W.K) [] E0 (tVar 0) tNil)) (gName 3) tYes
            (tTup (tCons (tVar 3) (tCons (tDGet2 (tVar 2) (tVar 3) (tMake (ga W.K "Fill") (sp_Fill_init (ga W.K "Fill")) [.str FREE, .non] E0 tNil)) tNil))) [3]) tNil))
          { nx := fun _ H' => Q .non H', rt := Q } [some (.ref b), some v, some w, none] H1 := by
      intro H1 d w hw eH hF
      obtain ⟨⟨dx, p, q, r, rs, h1, h2, h3, h4, h5⟩, hk, few, some_, nd, ok⟩ := hB
      have hB1 : BookAt W.K H1 b as ks := ⟨⟨dx, p, q, r, rs, eH _ _ h1, eH _ _ h2, eH _ _ h3, eH _ _ h4, paired_mono (fun _ _ h => eH _ _ h) h5⟩, paired_mono (fun _ _ ⟨dk, h⟩ => ⟨dk, eH _ _ h⟩) hk, few, some_, nd, ok⟩
      refine ⟨_, rfl, b, dx, _, rfl, eH _ _ h1, rfl, b, as, ks, rfl, hB1, fun l hl => ⟨l, rfl, ⟨_, SqL.of upd_same⟩, fun D hD => ?_⟩⟩
      generalize hH2 : upd H1 l (.lst (ks.map fun k => V.str k.name)) = H2 at hD ⊢
      have e2 : Ex H1 H2 := by rw [← hH2]; exact (Ex.refl _).new hl
      have hl2 : H2 l = some (.lst (ks.map fun k => V.str k.name)) := by rw [← hH2]; exact upd_same
      refine lc_objs (walk_list (xs := ks.map fun k => V.str k.name)) ks (by rw [List.length_map]) (by rw [List.length_map]; omega) hD (fun a k H => ∃ f, H a = some (.tup [.str k.name, .ref f]) ∧ FillAt W.K H f (toldF es k.name)) (fun a k Ha Hb xs r hd e => ?_) (fun Hb e => SqL.of (e _ _ hl2))
        (fun i y k' Hb Hb' Rq R' hi hk2 e hd hy r => ?_) (fun Hb rs2 e hd pr => ?_)
      · obtain ⟨f, r1, df, r2⟩ := r
        exact ⟨f, e _ _ (ne_of r1 hd (by intro z; cases z)) r1, df, e _ _ (ne_of r2 hd (by intro z; cases z)) r2⟩
      · obtain ⟨rfl, hy⟩ := hy
        obtain rfl : V.str k'.name = y := by
          rw [List.getElem?_map, hk2] at hy
          exact Option.some.inj hy
        have hFd := e _ _ (e2 _ _ hF.1)
        refine ⟨rfl, _, rfl, _, rfl, d, hw, .inl ⟨_, .inl hFd⟩, _, rfl, fun x dx2 nx ndx ne => ?_⟩
        have up : ∀ {c : Addr} {o : HO}, Hb' c = some o → upd (upd Hb' dx2 (.own x)) x (.ins (ga W.K "Fill") dx2 []) c = some o := fun {c o} h => by
          rw [upd_ne (ne_of_none h nx), upd_ne (ne_of_none h ndx)]
          exact h
        refine ⟨x, dx2, freeF, rfl, freeF_ok, upd_same, fun H3 e3 => ⟨rfl, ?_⟩⟩
        have up3 : ∀ {c : Addr} {o : HO}, Hb' c = some o → upd H3 x (.ins (ga W.K "Fill") dx2 (fillF freeF)) c = some o := fun {c o} h => by
          rw [upd_ne (ne_of_none h nx)]
          exact e3 _ _ (up h)
        refine ⟨_, .inl ⟨entK es, Sum.inr k'.name, .inl (up3 hFd), rfl, rfl⟩, by show 2 ≤ sizeLine; decide, fun p4 hp4 => ?_⟩
        obtain ⟨xs, hd⟩ := hd
        have pD : D ≠ p4 := ne_of_none (up3 hd) hp4
        rw [ent_find]
        have up4 : ∀ {c : Addr} {o u : HO}, Hb' c = some o → upd (upd H3 x (.ins (ga W.K "Fill") dx2 (fillF freeF))) p4 u c = some o := fun {c o u} h => by
          rw [upd_ne (ne_of_none (up3 h) hp4)]
          exact up3 h
        cases hf : es.find? (fun e => decide (e.1 = k'.name)) with
        | some e0 =>
          have et : toldF es k'.name = e0.2.2 := by
            unfold toldF
            rw [hf]
          obtain ⟨df, hf2⟩ := hF.2 e0 (List.mem_of_find?_eq_some hf)
          refine r p4 _ (fun c o hc h => up4 h) ((up4 hd).trans hd.symm) ⟨e0.2.1, upd_same, df, ?_⟩
          rw [et]
          exact up4 (e _ _ (e2 _ _ hf2))
        | none =>
          have et : toldF es k'.name = freeF := by
            unfold toldF
            rw [hf]
          refine r p4 _ (fun c o hc h => up4 h) ((up4 hd).trans hd.symm) ⟨x, upd_same, dx2, ?_⟩
          rw [et, upd_ne (ne_of_none upd_same hp4)]
          exact upd_same
      · obtain ⟨es', p1, p2, p3⟩ := ents_of pr
        refine ⟨D, rs2, entK es', rfl, SqL.of hd, p1, fun p5 hp5 => ?_⟩
        have nk : ((entK es').map (·.1)).Nodup := ent_nodup p2 (by rw [List.map_map]; exact nd)
        rw [merge_new (entK es') [] nk, List.nil_append]
        have eb : Ex H Hb := fun c o h => e c o (e2 c o (eH c o h))
        refine k _ p5 es' (eb.more hp5) (eb.none hp5) ⟨upd_same, fun e he => ?_⟩ p2
        obtain ⟨df, hf⟩ := p3 e he
        exact ⟨df, by rw [upd_ne (ne_of_none hf hp5)]; exact hf⟩
    rcases hv with ⟨hv, he⟩ | ⟨d, hv, hF⟩
    · refine ⟨_, rfl, rfl, _, rfl, ?_⟩
      rw [decide_eq_true hv]
      exact fun d hd => fin _ d _ rfl ((Ex.refl H).new hd) (by rw [he]; exact ⟨upd_same, fun e h => by cases h⟩)
    · refine ⟨_, rfl, rfl, _, rfl, ?_⟩
      rw [decide_eq_false (show ¬ v = V.non by rw [hv]; intro z; cases z)]
      exact ⟨_, rfl, fin H d _ hv (Ex.refl H) hF⟩
end
end U
/-! ## conventions.py: Convention -/
namespace U
open PySem PySem.Spec PyProof.Rows L2 StX
section
variable {W : Wd}
structure ConvD where
  wholes : Int
  floats : Int
  together : Bool
  doubles : Str
  again : Bool
  slot : Int
  natural : Bool
  home : Int
  tail : Str
  fill : Str → FillD
structure ConvD.Ok (c : ConvD) : Prop where
  wholes : 0 ≤ c.wholes ∧ c.wholes ≤ 3
  floats : 0 ≤ c.floats ∧ c.floats ≤ 3
  doubles : c.doubles = Str.ofString "whole" ∨ c.doubles = Str.ofString "even" ∨ c.doubles = Str.ofString "split"
  slot : c.slot = 4 ∨ c.slot = 8
  home : c.home = 0 ∨ c.home = 16 ∨ c.home = 32
  tail : c.tail = Str.ofString "same" ∨ c.tail = Str.ofString "slots"
def convF (b cp fp : Addr) (c : ConvD) : List (Str × V) := [("own_book", .ref b), ("own_counts", .ref cp), ("own_together", .bl c.together), ("own_doubles", .str c.doubles), ("own_again", .bl c.again), ("own_slot", .int c.slot), ("own_natural", .bl c.natural), ("own_home", .int c.home), ("own_tail", .str c.tail), ("own_fills", .ref fp)]
structure ConvAt (K : Fg) (H : Hp) (a b : Addr) (as : List Addr) (ks : List KindD) (c : ConvD) : Prop where
  ex : ∃ dx cp fp es, H a = some (.ins (ga K "Convention") dx (convF b cp fp c)) ∧ H cp = some (.tup [.int c.wholes, .int c.floats]) ∧ FillsAt K H fp es ∧ (es.map fun e => (e.1, e.2.2)) = (ks.map fun k => (k.name, c.fill k.name))
  book : BookAt K H b as ks
  ok : c.Ok
  fok : ∀ k ∈ ks, (c.fill k.name).Ok
theorem BookAt.mono {K : Fg} {H H' : Hp} {b : Addr} {as : List Addr} {ks : List KindD} (x : BookAt K H b as ks) (e : ∀ {c : Addr} {o : HO}, H c = some o → (∀ C u, o ≠ .ins C u []) → H' c = some o) : BookAt K H' b as ks := by
  obtain ⟨⟨dx, p, q, r, rs, h1, h2, h3, h4, h5⟩, hk, few, some_, nd, ok⟩ := x
  exact ⟨⟨dx, p, q, r, rs, e h1 (by intro _ _ z; injection z with _ _ z; cases z), e h2 (by intro _ _ z; cases z), e h3 (by intro _ _ z; cases z), e h4 (by intro _ _ z; cases z), paired_mono (fun _ _ h => e h (by intro _ _ z; cases z)) h5⟩, paired_mono (fun _ _ ⟨dk, h⟩ => ⟨dk, e h (by intro _ _ z; injection z with _ _ z; cases z)⟩) hk, few, some_, nd, ok⟩
theorem FillsAt.mono {K : Fg} {H H' : Hp} {d : Addr} {es : List Ent} (x : FillsAt K H d es) (e : ∀ {c : Addr} {o : HO}, H c = some o → (∀ C u, o ≠ .ins C u []) → H' c = some o) : FillsAt K H' d es :=
  ⟨e x.1 (by intro _ _ z; cases z), fun u hu => let ⟨dx, h⟩ := x.2 u hu; ⟨dx, e h (by intro _ _ z; injection z with _ _ z; cases z)⟩⟩
theorem BookAt.ex_mono {K : Fg} {H H' : Hp} {b : Addr} {as : List Addr} {ks : List KindD} (x : BookAt K H b as ks) (e : Ex H H') : BookAt K H' b as ks := by
  obtain ⟨⟨dx, p, q, r, rs, h1, h2, h3, h4, h5⟩, hk, few, some_, nd, ok⟩ := x
  exact ⟨⟨dx, p, q, r, rs, e _ _ h1, e _ _ h2, e _ _ h3, e _ _ h4, paired_mono (fun _ _ h => e _ _ h) h5⟩, paired_mono (fun _ _ ⟨dk, h⟩ => ⟨dk, e _ _ h⟩) hk, few, some_, nd, ok⟩
theorem FillsAt.ex_mono {K : Fg} {H H' : Hp} {d : Addr} {es : List Ent} (x : FillsAt K H d es) (e : Ex H H') : FillsAt K H' d es := ⟨e _ _ x.1, fun u hu => let ⟨dx, h⟩ := x.2 u hu; ⟨dx, e _ _ h⟩⟩
abbrev cN : List Str := ["self", "book", "wholes", "floats", "together", "doubles", "again", "slot", "natural", "home", "tail", "fills"]
abbrev cNN : List Str := ["self", "book", "wholes", "floats", "together", "doubles", "again", "slot", "natural", "home", "tail", "fills", "values", "name", "value"]
theorem sc_Conv_init : FnScope cNN cN (defScope s_Convention___init__) := ⟨rfl, rfl, rfl, by decide +kernel, rfl, by decide +kernel, by decide +kernel⟩
def optN : List V := [.str "wholes", .str "floats", .str "together", .str "doubles", .str "again", .str "slot", .str "natural", .str "home", .str "tail", .str "fills"]
def valsC (c : ConvD) (fv : V) : List V := [.int c.wholes, .int c.floats, .bl c.together, .str c.doubles, .bl c.again, .int c.slot, .bl c.natural, .int c.home, .str c.tail, fv]
def sp_Conv_init (K : Fg) : Sp := fun vs H Q _ => ∃ (x dx b : Addr) (as : List Addr) (ks : List KindD) (c : ConvD) (fv : V) (es : List Ent), vs = .ref x :: .ref b :: valsC c fv ∧ H x = some (.ins (ga K "Convention") dx []) ∧ BookAt K H b as ks ∧ c.Ok ∧
  ((fv = .non ∧ es = []) ∨ ∃ d, fv = .ref d ∧ FillsAt K H d es) ∧ (∀ e ∈ es, e.1 ∈ ks.map (·.name)) ∧ es.length ≤ 5 ∧ (∀ e ∈ es, e.2.2.Ok) ∧ (∀ k ∈ ks, c.fill k.name = toldF es k.name) ∧
  ∀ H', (∀ u o, u ≠ x → H u = some o → H' u = some o) → ConvAt K H' x b as ks c → Q .non H'
theorem fok_Conv_init (T : Tx W) {fd : FuncData} (F : Df W.K d_Convention___init__ fd) : FnOk W.P W.w W.K W.mg W.base CX0 8 (ca "Convention" "__init__" W.K) fd cN (sp_Conv_init W.K) := by
  refine F.ok sc_Conv_init (fun vs H Q E h => ?_) (fun cdv A outer s H vs Q E hr h => ?_)
  · obtain ⟨x, dx, b, as, ks, c, fv, es, rfl, _⟩ := h
    rfl
  · obtain ⟨x, dx, b, as, ks, c, fv, es, rfl, hx, hB, ok, hv, hin, few, fok, hc, q⟩ := h
    refine ⟨_, PSs.nox (pss_cons (ps_expr (u_call (ok_want_book T) T.g_want_book hr (pa_cons (pv 1) pa_nil)))
      (pss_cons (ps_set (i := 12) sc_Conv_init.nd rfl (Or.inl rfl) (pe_tup (pa_cons (pv 2) (pa_cons (pv 3) (pa_cons (pv 4) (pa_cons (pv 5) (pa_cons (pv 6) (pa_cons (pv 7) (pa_cons (pv 8) (pa_cons (pv 9) (pa_cons (pv 10) (pa_cons (pv 11) pa_nil))))))))))))
      (pss_cons (ps_for PassesOwn.never rfl (RZ.pi_zipA (by rfl) T.f_zip (pa_cons (pe_glob (v := .ref (ga W.K "OPTIONS")) (by rfl) T.g_OPTIONS rfl) (pa_cons (pv 12) pa_nil))) (pg_tup rfl (pgs_cons (pg_name (i := 13) sc_Conv_init.nd rfl (Or.inl rfl)) (pgs_cons (pg_name (i := 14) sc_Conv_init.nd rfl (Or.inl rfl)) pgs_nil)))
        (pss_one (ps_if (pt_not (pt_val (u_call (ok_is_option T) T.g_is_option hr (pa_cons (pv 1) (pa_cons (pv 13) (pa_cons (pv 14) pa_nil)))))) pss_never pss_nil)))
      (pss_cons (ps_fld (pv 0) (pv 1) rfl)
      (pss_cons (ps_fld (pv 0) (pe_tup (pa_cons (pv 2) (pa_cons (pv 3) pa_nil))) rfl)
      (pss_cons (ps_fld (pv 0) (pv 4) rfl)
      (pss_cons (ps_fld (pv 0) (pv 5) rfl)
      (pss_cons (ps_fld (pv 0) (pv 6) rfl)
      (pss_cons (ps_fld (pv 0) (pv 7) rfl)
      (pss_cons (ps_fld (pv 0) (pv 8) rfl)
      (pss_cons (ps_fld (pv 0) (pv 9) rfl)
      (pss_cons (ps_fld (pv 0) (pv 10) rfl)
      (pss_one (ps_fld (pv 0) (u_call (ok_all_fills T) T.g_all_fills hr (pa_cons (pv 1) (pa_cons (pv 11) pa_nil))) rfl)))))))))))))), ?_⟩
    obtain ⟨dxb, pb, qb, rb, rsb, hb1, _⟩ := hB.ex
    refine ⟨_, rfl, b, dxb, _, rfl, hb1, ?_⟩
    refine ⟨_, rfl, _, rfl, _, rfl, _, rfl, _, rfl, _, rfl, _, rfl, _, rfl, _, rfl, _, rfl, by show 10 ≤ sizeLine; decide, fun t ht => ?_⟩
    generalize hH1 : upd H t (.tup [.int c.wholes, .int c.floats, .bl c.together, .str c.doubles, .bl c.again, .int c.slot, .bl c.natural, .int c.home, .str c.tail, fv]) = H1
    have e1 : Ex H H1 := by rw [← hH1]; exact (Ex.refl H).new ht
    have ht1 : H1 t = some (.tup (valsC c fv)) := by rw [← hH1]; exact upd_same
    refine ⟨_, rfl, ga W.K "OPTIONS", t, _, _, rfl, .inr ⟨T.t_OPTIONS _, SqT.of ht1, RZ.for_zipT (xs := optN) (ys := valsC c fv) rfl (fun i σ Hc => Ex H1 Hc ∧ ∃ n v, σ = [some (.ref x), some (.ref b), some (.int c.wholes), some (.int c.floats), some (.bl c.together), some (.str c.doubles), some (.bl c.again), some (.int c.slot), some (.bl c.natural), some (.int c.home), some (.str c.tail), some fv, some (.ref t), n, v]) ⟨Ex.refl _, none, none, rfl⟩
      (fun i σ Hc h => ⟨T.t_OPTIONS _, SqT.of (h.1 _ _ ht1)⟩) (fun i xo y TT σ Hc hxo hy hP hT => ?_) (fun σ Hc hP => ?_)⟩⟩
    · obtain ⟨ec, n, v, rfl⟩ := hP
      refine ⟨TT, _, rfl, SqT.of upd_same, rfl, _, _, rfl, _, _, rfl, rfl, ?_⟩
      have e2 : Ex H1 (upd Hc TT (.tup [xo, y])) := ec.more hT
      have key : (∃ nm, xo = .str nm ∧ OptOk nm y) ∨ (xo = .str "fills" ∧ y = fv) := by
        match i, hxo, hy with
        | 0, h1, h2 => exact .inl ⟨_, (Option.some.inj h1).symm, Option.some.inj h2 ▸ .wholes _ ok.wholes⟩
        | 1, h1, h2 => exact .inl ⟨_, (Option.some.inj h1).symm, Option.some.inj h2 ▸ .floats _ ok.floats⟩
        | 2, h1, h2 => exact .inl ⟨_, (Option.some.inj h1).symm, Option.some.inj h2 ▸ .together _⟩
        | 3, h1, h2 => exact .inl ⟨_, (Option.some.inj h1).symm, Option.some.inj h2 ▸ .doubles _ ok.doubles⟩
        | 4, h1, h2 => exact .inl ⟨_, (Option.some.inj h1).symm, Option.some.inj h2 ▸ .again _⟩
        | 5, h1, h2 => exact .inl ⟨_, (Option.some.inj h1).symm, Option.some.inj h2 ▸ .slot _ ok.slot⟩
        | 6, h1, h2 => exact .inl ⟨_, (Option.some.inj h1).symm, Option.some.inj h2 ▸ .natural _⟩
        | 7, h1, h2 => exact .inl ⟨_, (Option.some.inj h1).symm, Option.some.inj h2 ▸ .home _ ok.home⟩
        | 8, h1, h2 => exact .inl ⟨_, (Option.some.inj h1).symm, Option.some.inj h2 ▸ .tail _ ok.tail⟩
        | 9, h1, h2 => exact .inr ⟨(Option.some.inj h1).symm, (Option.some.inj h2).symm⟩
        | n + 10, h1, _ => cases h1
      rcases key with ⟨nm, rfl, ho⟩ | ⟨rfl, rfl⟩
      · exact ⟨_, rfl, _, rfl, _, rfl, b, nm, _, rfl, .inl ⟨ho, fun H' e => ⟨_, rfl, e2.trans e, _, _, rfl⟩⟩⟩
      · refine ⟨_, rfl, _, rfl, _, rfl, b, _, _, rfl, .inr ⟨rfl, fun H3 e3 => ?_⟩⟩
        have e4 : Ex H1 H3 := e2.trans e3
        rcases hv with ⟨rfl, he⟩ | ⟨d, rfl, hF⟩
        · exact ⟨b, _, rfl, .inl ⟨rfl, _, rfl, e4, _, _, rfl⟩⟩
        · exact ⟨b, _, rfl, .inr ⟨d, es, as, ks, rfl, hB.ex_mono (e1.trans e4), hF.ex_mono (e1.trans e4), hin, few, fun H' e => ⟨_, rfl, e4.trans e, _, _, rfl⟩⟩⟩
    · obtain ⟨ec, n, v, rfl⟩ := hP
      have e0 : Ex H Hc := e1.trans ec
      have hxc := e0 _ _ hx
      have nfa : ∀ {g : Str}, g ∈ (["own_book", "own_counts", "own_together", "own_doubles", "own_again", "own_slot", "own_natural", "own_home", "own_tail", "own_fills"] : List Str) → NoAttr W.K (ga W.K "Convention") g := fun h => T.na_Convention h
      refine ⟨_, rfl, _, rfl, x, _, dx, _, rfl, hxc, T.cls_Convention, nfa (by decide), by decide, ?_⟩
      refine ⟨_, rfl, _, rfl, by show 2 ≤ sizeLine; decide, fun cp hcp => ?_⟩
      have xcp : x ≠ cp := ne_of_none (upd_same (H := Hc) (a := x)) hcp
      refine ⟨_, rfl, x, _, dx, _, rfl, (upd_ne xcp).trans upd_same, T.cls_Convention, nfa (by decide), of_decide_eq_true (by kernel_rfl), ?_⟩
      refine ⟨_, rfl, _, rfl, x, _, dx, _, rfl, upd_same, T.cls_Convention, nfa (by decide), of_decide_eq_true (by kernel_rfl), ?_⟩
      refine ⟨_, rfl, _, rfl, x, _, dx, _, rfl, upd_same, T.cls_Convention, nfa (by decide), of_decide_eq_true (by kernel_rfl), ?_⟩
      refine ⟨_, rfl, _, rfl, x, _, dx, _, rfl, upd_same, T.cls_Convention, nfa (by decide), of_decide_eq_true (by kernel_rfl), ?_⟩
      refine ⟨_, rfl, _, rfl, x, _, dx, _, rfl, upd_same, T.cls_Convention, nfa (by decide), of_decide_eq_true (by kernel_rfl), ?_⟩
      refine ⟨_, rfl, _, rfl, x, _, dx, _, rfl, upd_same, T.cls_Convention, nfa (by decide), of_decide_eq_true (by kernel_rfl), ?_⟩
      refine ⟨_, rfl, _, rfl, x, _, dx, _, rfl, upd_same, T.cls_Convention, nfa (by decide), of_decide_eq_true (by kernel_rfl), ?_⟩
      refine ⟨_, rfl, _, rfl, x, _, dx, _, rfl, upd_same, T.cls_Convention, nfa (by decide), of_decide_eq_true (by kernel_rfl), ?_⟩
      rw [upd_upd, upd_upd, upd_upd, upd_upd, upd_upd, upd_upd, upd_upd]
      generalize hH4 : upd (upd (upd Hc x (.ins (ga W.K "Convention") dx (putF "own_book" (.ref b) []))) cp (.tup [.int c.wholes, .int c.floats])) x (.ins (ga W.K "Convention") dx (putF "own_tail" (.str c.tail) (putF "own_home" (.int c.home) (putF "own_natural" (.bl c.natural) (putF "own_slot" (.int c.slot) (putF "own_again" (.bl c.again) (putF "own_doubles" (.str c.doubles)
        (putF "own_together" (.bl c.together) (putF "own_counts" (.ref cp) (putF "own_book" (.ref b) [])))))))))) = H4
      have x4 : H4 x = some (.ins (ga W.K "Convention") dx (putF "own_tail" (.str c.tail) (putF "own_home" (.int c.home) (putF "own_natural" (.bl c.natural) (putF "own_slot" (.int c.slot) (putF "own_again" (.bl c.again) (putF "own_doubles" (.str c.doubles)
        (putF "own_together" (.bl c.together) (putF "own_counts" (.ref cp) (putF "own_book" (.ref b) [])))))))))) := by rw [← hH4]; exact upd_same
      have cp4 : H4 cp = some (.tup [.int c.wholes, .int c.floats]) := by rw [← hH4, upd_ne xcp.symm]; exact upd_same
      have k4 : ∀ u o, u ≠ x → H u = some o → H4 u = some o := fun u o hu h => by
        have hc := e0 u o h
        have ucp : u ≠ cp := ne_of_none (show upd Hc x (.ins (ga W.K "Convention") dx (putF "own_book" (.ref b) [])) u = some o by rw [upd_ne hu]; exact hc) hcp
        rw [← hH4, upd_ne hu, upd_ne ucp, upd_ne hu]
        exact hc
      have m4 : ∀ {u : Addr} {o : HO}, H u = some o → (∀ C v, o ≠ .ins C v []) → H4 u = some o := fun {u o} h n => k4 u o (ne_of h hx (n _ _)) h
      refine ⟨_, rfl, _, rfl, b, fv, as, ks, es, rfl, hB.mono m4, ?_, fun H5 p es' e5 np hF hE => ?_⟩
      · rcases hv with h | ⟨d, h, hF⟩
        · exact .inl h
        · exact .inr ⟨d, h, hF.mono m4⟩
      · have x5 := e5 _ _ x4
        refine ⟨_, rfl, x, _, dx, _, rfl, x5, T.cls_Convention, nfa (by decide), of_decide_eq_true (by kernel_rfl), ?_⟩
        have k5 : ∀ u o, u ≠ x → H4 u = some o → upd H5 x (.ins (ga W.K "Convention") dx (putF "own_fills" (.ref p) (putF "own_tail" (.str c.tail) (putF "own_home" (.int c.home) (putF "own_natural" (.bl c.natural) (putF "own_slot" (.int c.slot) (putF "own_again" (.bl c.again) (putF "own_doubles" (.str c.doubles)
            (putF "own_together" (.bl c.together) (putF "own_counts" (.ref cp) (putF "own_book" (.ref b) []))))))))))) u = some o := fun u o hu h => by
          rw [upd_ne hu]
          exact e5 u o h
        refine q _ (fun u o hu h => k5 u o hu (k4 u o hu h)) ⟨⟨dx, cp, p, es', ?_, k5 _ _ xcp.symm cp4, ?_, ?_⟩, hB.mono (fun {u o} h n => k5 u o (ne_of h hx (n _ _)) (m4 h n)), ok, ?_⟩
        · rw [upd_same]
          exact congrArg some (by kernel_rfl)
        · refine ⟨?_, fun e he => ?_⟩
          · rw [upd_ne (ne_of hF.1 x5 (by intro z; cases z))]
            exact hF.1
          · obtain ⟨df, hf⟩ := hF.2 e he
            refine ⟨df, ?_⟩
            rw [upd_ne (ne_of hf x5 (by
              intro z
              injection z with _ _ z
              have z2 := congrArg List.length z
              have z3 : (2 : Nat) = 9 := z2
              omega))]
            exact hf
        · rw [hE]
          exact List.map_congr_left fun k hk => by rw [hc k hk]
        · intro k hk
          rw [hc k hk]
          unfold toldF
          cases hf : es.find? (fun e => decide (e.1 = k.name)) with
          | none => exact freeF_ok
          | some e => exact fok e (List.mem_of_find?_eq_some hf)
end
end U
/-! ## conventions.py: Convention called by keywords -/
namespace U
open PySem PySem.Spec PyProof.Rows L2 StX
section
variable {W : Wd}
theorem vals10 {α : Type} {l : List α} (h : l.length = 10) : ∃ a b c d e f g i j k, l = [a, b, c, d, e, f, g, i, j, k] := by
  match l, h with
  | [a, b, c, d, e, f, g, i, j, k], _ => exact ⟨a, b, c, d, e, f, g, i, j, k, rfl⟩
abbrev kw10 : List Str := ["wholes", "floats", "together", "doubles", "again", "slot", "natural", "home", "tail", "fills"]
theorem ok_Conv_all (T : Tx W) : ∃ fd, FnOk W.P W.w W.K W.mg W.base CX0 8 (ca "Convention" "__init__" W.K) fd cN (sp_Conv_init W.K) ∧ (∃ g gV, KBn W.K fd cN 2 kw10 g gV ∧ gV = fun vs zs => vs ++ zs) ∧
    (∃ g gV, KBn W.K fd cN 2 ["wholes", "floats", "together"] g gV ∧ gV = fun vs zs => vs ++ zs ++ [.str "whole", .bl false, .int 8, .bl true, .int 0, .str "same", .non]) := by
  obtain ⟨fd, F⟩ := T.d_Convention___init__
  refine ⟨fd, fok_Conv_init T F, ?_, ?_⟩
  · obtain ⟨mv, hb⟩ := F.kbinds0 (ps := cN) 2 kw10 [] (fun us _ ws => us ++ ws) (by intro z; cases z) (fun _ h => absurd h (by simp)) (fun r1 _ r2 => r1.append r2)
      (fun D doc pm an cdv ct us mv ws h1 h2 h3 => by
        obtain ⟨u1, u2, rfl⟩ : ∃ a b, us = [a, b] := by
          match us, h1 with
          | [a, b], _ => exact ⟨a, b, rfl⟩
        obtain ⟨w1, w2, w3, w4, w5, w6, w7, w8, w9, w10, rfl⟩ := vals10 h3
        obtain rfl : mv = [] := List.length_eq_zero_iff.mp h2
        show bindArgs _ _ = pure _
        kernel_rfl)
    exact ⟨_, _, hb, rfl⟩
  · obtain ⟨mv, hb⟩ := F.kbinds0 (ps := cN) 2 ["wholes", "floats", "together"] [("doubles", .str "whole"), ("again", .bl false), ("slot", .int 8), ("natural", .bl true), ("home", .int 0), ("tail", .str "same"), ("fills", .non)] (fun us mv ws => us ++ ws ++ mv) (by intro z; cases z) (fun q h => by
        have e : DefP.kws W.K d_Convention___init__ = ([("wholes", .int 0), ("floats", .int 0), ("together", .bl false), ("doubles", .str "whole"), ("again", .bl false), ("slot", .int 8), ("natural", .bl true), ("home", .int 0), ("tail", .str "same"), ("fills", .non)] : List (Str × V)) := rfl
        rw [e]
        exact List.mem_cons_of_mem _ (List.mem_cons_of_mem _ (List.mem_cons_of_mem _ h))) (fun r1 rm r2 => (r1.append r2).append rm)
      (fun D doc pm an cdv ct us mv ws h1 h2 h3 => by
        obtain ⟨u1, u2, rfl⟩ : ∃ a b, us = [a, b] := by
          match us, h1 with
          | [a, b], _ => exact ⟨a, b, rfl⟩
        obtain ⟨w1, w2, w3, rfl⟩ : ∃ a b c, ws = [a, b, c] := by
          match ws, h3 with
          | [a, b, c], _ => exact ⟨a, b, c, rfl⟩
        obtain ⟨m1, m2, m3, m4, m5, m6, m7, rfl⟩ : ∃ a b c d e f g, mv = [a, b, c, d, e, f, g] := by
          match mv, h2 with
          | [a, b, c, d, e, f, g], _ => exact ⟨a, b, c, d, e, f, g, rfl⟩
        refine ⟨_, _, _, _, _, _, rfl, rfl, ?_⟩
        refine ⟨_, _, _, _, _, _, rfl, rfl, ?_⟩
        refine ⟨_, _, _, _, _, _, rfl, rfl, ?_⟩
        refine ⟨_, _, _, _, _, _, rfl, rfl, ?_⟩
        refine ⟨_, _, _, _, _, _, rfl, rfl, ?_⟩
        refine ⟨_, _, _, _, _, _, rfl, rfl, ?_⟩
        refine ⟨_, _, _, _, _, _, rfl, rfl, ?_⟩
        rfl)
    exact ⟨_, _, hb, rfl⟩
end
end U
/-! ## conventions.py: what a convention tells -/
namespace U
open PySem PySem.Spec PyProof.Rows L2 StX
section
variable {W : Wd}
theorem nfC (T : Tx W) : ∀ {g : Str}, g ∈ (["own_book", "own_counts", "own_together", "own_doubles", "own_again", "own_slot", "own_natural", "own_home", "own_tail", "own_fills"] : List Str) → NoAttr W.K (ga W.K "Convention") g := fun h => T.na_Convention h
theorem sc_Conv_wholes : FnScope ["self"] ["self"] (defScope s_Convention_wholes) := ⟨rfl, rfl, rfl, by decide +kernel, rfl, by decide +kernel, by decide +kernel⟩
theorem sc_Conv_floats : FnScope ["self"] ["self"] (defScope s_Convention_floats) := ⟨rfl, rfl, rfl, by decide +kernel, rfl, by decide +kernel, by decide +kernel⟩
def sp_Conv_count (K : Fg) (g : ConvD → Int) : Sp := fun vs H Q _ => ∃ (a b : Addr) (as : List Addr) (ks : List KindD) (c : ConvD), vs = [.ref a] ∧ ConvAt K H a b as ks c ∧ Q (.int (g c)) H
theorem ok_Conv_wholes (T : Tx W) : Fn W CX0 1 (pa "Convention" "wholes" W.K) ["self"] (sp_Conv_count W.K (·.wholes)) := by
  obtain ⟨fd, F⟩ := T.d_Convention_wholes
  refine ⟨⟨fd, ?_, F.bindsN fun _ _ _ _ _ _ us hl => match us, hl with | [_], _ => rfl⟩, F.kp⟩
  refine F.ok sc_Conv_wholes (fun vs H Q E h => ?_) (fun cdv A outer s H vs Q E hr h => ?_)
  · obtain ⟨a, b, as, ks, c, rfl, _⟩ := h
    rfl
  · obtain ⟨a, b, as, ks, c, rfl, ⟨⟨dx, cp, fp, es, h1, h2, h3, h4⟩, _⟩, k⟩ := h
    refine ⟨_, PSs.nox (pss_one (ps_ret (pe_ix ix_tup (pe_fld (pv 0) rfl) pe_int (fun _ _ => rfl)))), ?_⟩
    exact ⟨_, rfl, a, _, dx, _, _, rfl, h1, T.cls_Convention, nfC T (by decide), rfl, cp, _, _, _, rfl, rfl, SqT.of h2, rfl, k⟩
theorem ok_Conv_floats (T : Tx W) : Fn W CX0 1 (pa "Convention" "floats" W.K) ["self"] (sp_Conv_count W.K (·.floats)) := by
  obtain ⟨fd, F⟩ := T.d_Convention_floats
  refine ⟨⟨fd, ?_, F.bindsN fun _ _ _ _ _ _ us hl => match us, hl with | [_], _ => rfl⟩, F.kp⟩
  refine F.ok sc_Conv_floats (fun vs H Q E h => ?_) (fun cdv A outer s H vs Q E hr h => ?_)
  · obtain ⟨a, b, as, ks, c, rfl, _⟩ := h
    rfl
  · obtain ⟨a, b, as, ks, c, rfl, ⟨⟨dx, cp, fp, es, h1, h2, h3, h4⟩, _⟩, k⟩ := h
    refine ⟨_, PSs.nox (pss_one (ps_ret (pe_ix ix_tup (pe_fld (pv 0) rfl) pe_int (fun _ _ => rfl)))), ?_⟩
    exact ⟨_, rfl, a, _, dx, _, _, rfl, h1, T.cls_Convention, nfC T (by decide), rfl, cp, _, _, _, rfl, rfl, SqT.of h2, rfl, k⟩
theorem fills_get {K : Fg} {H : Hp} {fp : Addr} {es : List Ent} {ks : List KindD} {g : Str → FillD} {n : Str} (h3 : FillsAt K H fp es) (h4 : (es.map fun e => (e.1, e.2.2)) = (ks.map fun k => (k.name, g k.name))) (hn : n ∈ ks.map (·.name)) :
    ∃ f, valV (entK es) (Sum.inr n) = some (.ref f) ∧ FillAt K H f (g n) := by
  have e1 : es.map (·.1) = ks.map (·.name) := by
    have z := congrArg (List.map (·.1)) h4
    rw [List.map_map, List.map_map] at z
    exact z
  obtain ⟨e, he, hv, en⟩ := ent_val (es := es) (n := n) (by rw [e1]; exact hn)
  refine ⟨e.2.1, hv, ?_⟩
  have hm : (e.1, e.2.2) ∈ ks.map fun k => (k.name, g k.name) := by
    rw [← h4]
    exact List.mem_map.mpr ⟨e, he, rfl⟩
  obtain ⟨k, _, hk⟩ := List.mem_map.mp hm
  have h5 : e.2.2 = g n := by
    have z1 : k.name = e.1 := congrArg Prod.fst hk
    have z2 : g k.name = e.2.2 := congrArg Prod.snd hk
    rw [← z2, z1, en]
  rw [← h5]
  exact h3.2 e he
theorem sc_Conv_fill : FnScope ["self", "name"] ["self", "name"] (defScope s_Convention_fill) := ⟨rfl, rfl, rfl, by decide +kernel, rfl, by decide +kernel, by decide +kernel⟩
def sp_Conv_fill (K : Fg) : Sp := fun vs H Q _ => ∃ (a b : Addr) (as : List Addr) (ks : List KindD) (c : ConvD) (n : Str), vs = [.ref a, .str n] ∧ ConvAt K H a b as ks c ∧ n ∈ ks.map (·.name) ∧ ∀ f, FillAt K H f (c.fill n) → Q (.ref f) H
theorem ok_Conv_fill (T : Tx W) : Fn W CX0 2 (ca "Convention" "fill" W.K) ["self", "name"] (sp_Conv_fill W.K) := by
  obtain ⟨fd, F⟩ := T.d_Convention_fill
  obtain ⟨fdB, FB, bB⟩ := (ok_Book_has T).ex
  refine ⟨⟨fd, ?_, F.bindsN fun _ _ _ _ _ _ us hl => match us, hl with | [_, _], _ => rfl⟩, F.kp⟩
  refine F.ok sc_Conv_fill (fun vs H Q E h => ?_) (fun cdv A outer s H vs Q E hr h => ?_)
  · obtain ⟨a, b, as, ks, c, n, rfl, _⟩ := h
    rfl
  · obtain ⟨a, b, as, ks, c, n, rfl, ⟨⟨dx, cp, fp, es, h1, h2, h3, h4⟩, hB, _⟩, hn, k⟩ := h
    refine ⟨_, PSs.nox (pss_cons (ps_if (pt_cmpR (op_ownNotIn T.in_Book FB (hr.mono (by decide)) bB) (pv 1) (pe_fld (pv 0) rfl) rfl) pss_never pss_nil)
      (pss_one (ps_ret (pe_dget (hu_of hr) (pe_fld (pv 0) rfl) (pv 1) (fun _ _ => rfl))))), ?_⟩
    obtain ⟨dxb, pb, qb, rb, rsb, hb1, _⟩ := hB.ex
    obtain ⟨f, hv, hf⟩ := fills_get h3 h4 hn
    refine ⟨_, rfl, _, rfl, a, _, dx, _, _, rfl, h1, T.cls_Convention, nfC T (by decide), rfl, b, dxb, _, rfl, hb1, b, as, ks, n, rfl, hB, _, rfl, ?_⟩
    rw [decide_eq_true hn]
    refine ⟨_, rfl, ?_⟩
    exact ⟨_, rfl, a, _, dx, _, _, rfl, h1, T.cls_Convention, nfC T (by decide), rfl, _, rfl, fp, _, rfl, .inl ⟨entK es, Sum.inr n, .inl h3.1, rfl, hv.symm⟩, k f hf⟩
end
end U
/-! ## conventions.py: == of equal conventions -/
namespace U
open PySem PySem.Spec PyProof.Rows L2 StX
section
variable {W : Wd}
theorem sc_Conv_eq : FnScope ["self", "other", "name"] ["self", "other"] (defScope s_Convention___eq__) := ⟨rfl, rfl, rfl, by decide +kernel, rfl, by decide +kernel, by decide +kernel⟩
def sp_Conv_eq (K : Fg) : Sp := fun vs H Q _ => ∃ (a a' b b' : Addr) (as as' : List Addr) (ks : List KindD) (c : ConvD), vs = [.ref a, .ref a'] ∧ ConvAt K H a b as ks c ∧ ConvAt K H a' b' as' ks c ∧ ∀ H', Ex H H' → Q (.bl true) H'
theorem fillEq_self (f : FillD) : fillEq f f = true := by
  unfold fillEq
  rw [decide_eq_true rfl, decide_eq_true rfl]
  rfl
theorem ok_Conv_eq (T : Tx W) : Fn W CX0 3 (ca "Convention" "__eq__" W.K) ["self", "other"] (sp_Conv_eq W.K) := by
  obtain ⟨fd, F⟩ := T.d_Convention___eq__
  obtain ⟨fdB, FB, bB⟩ := (ok_Book_eq T).ex
  obtain ⟨fdF, FF, bF⟩ := (ok_Fill_eq T).ex
  refine ⟨⟨fd, ?_, F.bindsN fun _ _ _ _ _ _ us hl => match us, hl with | [_, _], _ => rfl⟩, F.kp⟩
  refine F.ok sc_Conv_eq (fun vs H Q E h => ?_) (fun cdv A outer s H vs Q E hr h => ?_)
  · obtain ⟨a, a', b, b', as, as', ks, c, rfl, _⟩ := h
    rfl
  · obtain ⟨a, a', b, b', as, as', ks, c, rfl, ⟨⟨dx, cp, fp, es, h1, h2, h3, h4⟩, hB, ok, fok⟩, ⟨⟨dx', cp', fp', es', h1', h2', h3', h4'⟩, hB', _, _⟩, k⟩ := h
    refine ⟨_, PSs.nox (pss_cons (ps_if (PW.pt (pw_or (pt_not (pt_val (pe_callB call_isi (by rfl) T.f_isinstance (by decide +kernel) (pa_cons (pv 1) (pa_cons (pe_glob (v := .ref (ga W.K "Convention")) (by rfl) T.g_Convention rfl) pa_nil)))))
          (pw_or1 (pt_cmpR (op_ownNe T.eq_Book FB (hr.mono (by decide)) bB) (pe_fld (pv 0) rfl) (pe_fld (pv 1) rfl) (nomark _))))) (pss_one (ps_ret pe_bl)) pss_nil)
      (pss_cons (ps_if (PW.pt (pw_or (pt_cmpR (op_neD (u64 hr)) (pe_fld (pv 0) rfl) (pe_fld (pv 1) rfl) (nomark _)) (pw_or1 (pt_cmpR op_ne (pe_fld (pv 0) rfl) (pe_fld (pv 1) rfl) (nomark _))))) (pss_one (ps_ret pe_bl)) pss_nil)
      (pss_cons (ps_if (PW.pt (pw_or (pt_cmpR op_ne (pe_fld (pv 0) rfl) (pe_fld (pv 1) rfl) (nomark _)) (pw_or1 (pt_cmpR op_ne (pe_fld (pv 0) rfl) (pe_fld (pv 1) rfl) (nomark _))))) (pss_one (ps_ret pe_bl)) pss_nil)
      (pss_cons (ps_if (PW.pt (pw_or (pt_cmpR op_ne (pe_fld (pv 0) rfl) (pe_fld (pv 1) rfl) (nomark _)) (pw_or1 (pt_cmpR op_ne (pe_fld (pv 0) rfl) (pe_fld (pv 1) rfl) (nomark _))))) (pss_one (ps_ret pe_bl)) pss_nil)
      (pss_cons (ps_if (PW.pt (pw_or (pt_cmpR op_ne (pe_fld (pv 0) rfl) (pe_fld (pv 1) rfl) (nomark _)) (pw_or1 (pt_cmpR op_ne (pe_fld (pv 0) rfl) (pe_fld (pv 1) rfl) (nomark _))))) (pss_one (ps_ret pe_bl)) pss_nil)
      (pss_one (ps_lock (ps_ret (pe_callB (cr_all rfl) (by rfl) T.f_all (by decide +kernel) (pa_cons (pe_lc (own := [("name", 2)]) (g := gName 2) (tt := tYes) rfl sc_Conv_eq.nd (pi_keys (pe_fld (pv 0) rfl)) (blkOk_by (N := ["self", "other", "name"]) (sc := defScope s_Convention___eq__) (by decide +kernel))
        (fun _ _ _ _ _ => pg_name (i := 2) sc_Conv_eq.nd rfl (Or.inl rfl)) (fun _ _ _ _ _ => pts_nil)
        (fun _ _ _ _ _ => pe_cmpR (r := rOwnB (ga W.K "Fill") (sp_Fill_eq W.K) fun k => k) (ta := tDGet (tFld W.K (tVar 0) "own_fills") (tVar 2)) (tb := tDGet (tFld W.K (tVar 1) "own_fills") (tVar 2)) (op_ownEq T.eq_Fill FF (hr.mono (by decide)) bF) (pe_dget (hu_of hr) (pe_fld (pv 0) rfl) (pv 2) (fun _ _ => rfl)) (pe_dget (hu_of hr) (pe_fld (pv 1) rfl) (pv 2) (fun _ _ => rfl)) (nomark _))) pa_nil)))))))))), ?_⟩
    obtain ⟨dxb, pb, qb, rb, rsb, hb1, _⟩ := hB.ex
    obtain ⟨dxb', pb', qb', rb', rsb', hb1', _⟩ := hB'.ex
    have fS : ∀ {H2 : Hp} {f : Str} {v : V} {P : V → Hp → Prop}, True := fun {_ _ _ _} => True.intro
    have selfB : ∀ x : Bool, (!decide (V.bl x = V.bl x)) = false := fun x => by rw [decide_eq_true rfl]; rfl
    have selfS : ∀ x : Str, (!decide (V.str x = V.str x)) = false := fun x => by rw [decide_eq_true rfl]; rfl
    have selfI : ∀ x : Int, (!decide (V.int x = V.int x)) = false := fun x => by rw [decide_eq_true rfl]; rfl
    refine ⟨_, rfl, _, _, _, _, _, rfl, .own _, T.ty_Convention.of T.cls_Convention h1', T.kk_Convention, _, rfl, ?_⟩
    refine ⟨_, rfl, a, _, dx, _, _, rfl, h1, T.cls_Convention, nfC T (by decide), rfl, _, rfl, a', _, dx', _, _, rfl, h1', T.cls_Convention, nfC T (by decide), rfl, b, dxb, _, b', dxb', _, rfl, rfl, hb1, hb1', b, b', as, as', ks, rfl, hB, hB', _, rfl, _, rfl, ?_⟩
    refine ⟨_, rfl, a, _, dx, _, _, rfl, h1, T.cls_Convention, nfC T (by decide), rfl, _, rfl, a', _, dx', _, _, rfl, h1', T.cls_Convention, nfC T (by decide), rfl, .tuple [.int c.wholes, .int c.floats], .tuple [.int c.wholes, .int c.floats], .tup (SqT.of h2) (.cons (.int _) (.cons (.int _) .nil)), .tup (SqT.of h2') (.cons (.int _) (.cons (.int _) .nil)), (by kernel_rfl), (by kernel_rfl), _, rfl, ?_⟩
    rw [SeqAt.eqv_refl _ (show PyData.canLay0 (.tuple [.int c.wholes, .int c.floats]) = true by rfl)]
    refine ⟨_, rfl, a, _, dx, _, _, rfl, h1, T.cls_Convention, nfC T (by decide), rfl, _, rfl, a', _, dx', _, _, rfl, h1', T.cls_Convention, nfC T (by decide), rfl, rfl, _, rfl, ?_⟩
    rw [selfB]
    refine ⟨_, rfl, a, _, dx, _, _, rfl, h1, T.cls_Convention, nfC T (by decide), rfl, _, rfl, a', _, dx', _, _, rfl, h1', T.cls_Convention, nfC T (by decide), rfl, rfl, _, rfl, ?_⟩
    rw [selfS]
    refine ⟨_, rfl, a, _, dx, _, _, rfl, h1, T.cls_Convention, nfC T (by decide), rfl, _, rfl, a', _, dx', _, _, rfl, h1', T.cls_Convention, nfC T (by decide), rfl, rfl, _, rfl, ?_⟩
    rw [selfB]
    refine ⟨_, rfl, a, _, dx, _, _, rfl, h1, T.cls_Convention, nfC T (by decide), rfl, _, rfl, a', _, dx', _, _, rfl, h1', T.cls_Convention, nfC T (by decide), rfl, rfl, _, rfl, ?_⟩
    rw [selfI]
    refine ⟨_, rfl, a, _, dx, _, _, rfl, h1, T.cls_Convention, nfC T (by decide), rfl, _, rfl, a', _, dx', _, _, rfl, h1', T.cls_Convention, nfC T (by decide), rfl, rfl, _, rfl, ?_⟩
    rw [selfB]
    refine ⟨_, rfl, a, _, dx, _, _, rfl, h1, T.cls_Convention, nfC T (by decide), rfl, _, rfl, a', _, dx', _, _, rfl, h1', T.cls_Convention, nfC T (by decide), rfl, rfl, _, rfl, ?_⟩
    rw [selfI]
    refine ⟨_, rfl, a, _, dx, _, _, rfl, h1, T.cls_Convention, nfC T (by decide), rfl, _, rfl, a', _, dx', _, _, rfl, h1', T.cls_Convention, nfC T (by decide), rfl, rfl, _, rfl, ?_⟩
    rw [selfS]
    refine ⟨fp, _, h3.1, True.intro, fun od => ?_⟩
    have upf : ∀ {u : Addr} {o : HO}, H u = some o → (∀ kvs, o ≠ .dK kvs) → upd H fp (.frz od (.dK (entK es))) u = some o := fun {u o} h n => by
      rw [upd_ne (ne_of h h3.1 (n _))]
      exact h
    have lks : es.length = ks.length := by
      have z := congrArg List.length h4
      rw [List.length_map, List.length_map] at z
      exact z
    have few := hB.few
    refine ⟨_, rfl, a, _, dx, _, _, rfl, upf h1 (by intro _ z; cases z), T.cls_Convention, nfC T (by decide), rfl, fp, od, rfl, .inl ⟨_, upd_same, fun D hD => lc_pure walk_keys (es.map fun _ => V.bl true) ?_ ?_ hD (fun u => ?_) (fun i y z u H'' R R' hi hy hx r => ?_) ?_⟩⟩
    · rw [List.length_map]
      unfold entK
      rw [List.length_map]
    · unfold entK
      rw [List.length_map]
      omega
    · rw [upd_ne (ne_of_none upd_same hD)]
      exact upd_same
    · obtain ⟨rfl, kk, v, hkv, rfl⟩ := hx
      obtain ⟨e, he, he2⟩ : ∃ e, es[i]? = some e ∧ (Sum.inr e.1, V.ref e.2.1) = (kk, v) := by
        unfold entK at hkv
        rw [List.getElem?_map] at hkv
        cases q : es[i]? with
        | none =>
          rw [q] at hkv
          cases hkv
        | some e =>
          rw [q] at hkv
          exact ⟨e, rfl, Option.some.inj hkv⟩
      cases he2
      obtain rfl : V.bl true = z := by
        rw [List.getElem?_map, he] at hy
        exact Option.some.inj hy
      have mem := List.mem_of_getElem? he
      have dD : fp ≠ D := ne_of_none upd_same hD
      have up2 : ∀ {w : Addr} {o : HO}, H w = some o → (∀ kvs, o ≠ .dK kvs) → upd (upd H fp (.frz od (.dK (entK es)))) D u w = some o := fun {w o} h n => by
        rw [upd_ne (ne_of_none (upf h n) hD)]
        exact upf h n
      have hn : e.1 ∈ ks.map (·.name) := by
        have z := congrArg (List.map (·.1)) h4
        rw [List.map_map, List.map_map] at z
        have z2 : e.1 ∈ es.map (fun x => x.1) := List.mem_map_of_mem mem
        have z3 : es.map (fun x => x.1) = ks.map (·.name) := z
        rw [← z3]
        exact z2
      obtain ⟨f, hv, df, hf⟩ := fills_get h3 h4 hn
      obtain ⟨f', hv', df', hf'⟩ := fills_get h3' h4' hn
      have okf : (c.fill e.1).Ok := by
        obtain ⟨k0, hk0, ek0⟩ := List.mem_map.mp hn
        rw [← ek0]
        exact fok k0 hk0
      have r1 : Rd (upd (upd H fp (.frz od (.dK (entK es)))) D u) fp (.dK (entK es)) := .inr ⟨od, by rw [upd_ne dD]; exact upd_same⟩
      have r2 : Rd (upd (upd H fp (.frz od (.dK (entK es)))) D u) fp' (.dK (entK es')) := by
        by_cases q : fp' = fp
        · have z : entK es' = entK es := by
            have z1 := h3'.1
            rw [q, h3.1] at z1
            injection z1 with z1
            injection z1 with z1
            exact z1.symm
          rw [q, z]
          exact r1
        · refine .inl ?_
          have z : upd H fp (.frz od (.dK (entK es))) fp' = some (.dK (entK es')) := by
            rw [upd_ne q]
            exact h3'.1
          rw [upd_ne (ne_of_none z hD)]
          exact z
      refine ⟨rfl, _, rfl, a, _, dx, _, _, rfl, up2 h1 (by intro _ z; cases z), T.cls_Convention, nfC T (by decide), rfl, _, rfl, fp, _, rfl, .inl ⟨entK es, Sum.inr e.1, r1, rfl, hv.symm⟩,
        _, rfl, a', _, dx', _, _, rfl, up2 h1' (by intro _ z; cases z), T.cls_Convention, nfC T (by decide), rfl, _, rfl, fp', _, rfl, .inl ⟨entK es', Sum.inr e.1, r2, rfl, hv'.symm⟩, ?_⟩
      have g1 := up2 hf (by intro _ z; cases z)
      have g2 := up2 hf' (by intro _ z; cases z)
      refine ⟨f, df, _, f', df', _, rfl, rfl, g1, g2, f, f', c.fill e.1, c.fill e.1, rfl, ⟨df, g1⟩, ⟨df', g2⟩, okf, okf, _, rfl, ?_⟩
      rw [fillEq_self]
      exact r
    · have dD : fp ≠ D := ne_of_none upd_same hD
      refine ⟨D, es.map fun _ => true, rfl, SqL.of ?_, ?_, ?_⟩
      · rw [upd_same, List.map_map]
        rfl
      · rw [upd_ne dD]
        exact upd_same
      · have e1 : (es.map fun _ => true).all id = true := by
          rw [List.all_map, List.all_eq_true]
          intro _ _
          rfl
        rw [e1]
        refine k _ fun w o h => ?_
        by_cases q : w = fp
        · rw [q] at h ⊢
          rw [upd_same, ← h3.1]
          exact h.symm ▸ rfl
        · have h2 : upd H fp (.frz od (.dK (entK es))) w = some o := by
            rw [upd_ne q]
            exact h
          rw [upd_ne q, upd_ne (ne_of_none h2 hD)]
          exact h2
end
end U
/-! ## conventions.py: changed -/
namespace U
open PySem PySem.Spec PyProof.Rows L2 StX
section
variable {W : Wd}
theorem sc_Conv_changed : FnScope ["self", "options", "name", "values"] ["self", "options"] (defScope s_Convention_changed) := ⟨rfl, rfl, rfl, by decide +kernel, rfl, by decide +kernel, by decide +kernel⟩
def baseKvs (c : ConvD) (fp : Addr) : List (Key × V) := (kw10.map Sum.inr).zip (valsC c (.ref fp))
/-- behind the binding: self, the dict of the options. tf: the fills that are told, none: they stay -/
def sp_changed_in (K : Fg) : Sp := fun vs H Q _ => ∃ (a d b : Addr) (as : List Addr) (ks : List KindD) (c c' : ConvD) (ns : List Str) (zs : List V) (tf : Option (Addr × List Ent)), vs = [.ref a, .ref d] ∧ ConvAt K H a b as ks c ∧ c'.Ok ∧
  H d = some (.dK ((ns.map Sum.inr).zip zs)) ∧ ns.length = zs.length ∧ ns.length ≤ 10 ∧ (∀ n ∈ ns, inV (.str n) optN = true) ∧
  (∀ fp, mergeV (baseKvs c fp) ((ns.map Sum.inr).zip zs) = (kw10.map Sum.inr).zip (valsC c' (match tf with | none => .ref fp | some t => .ref t.1))) ∧
  (match tf with
    | none => c'.fill = c.fill
    | some t => FillsAt K H t.1 t.2 ∧ (∀ e ∈ t.2, e.1 ∈ ks.map (·.name)) ∧ t.2.length ≤ 5 ∧ (∀ e ∈ t.2, e.2.2.Ok) ∧ ∀ k ∈ ks, c'.fill k.name = toldF t.2 k.name) ∧
  ∀ H' x, Ex H H' → H x = none → ConvAt K H' x b as ks c' → Q (.ref x) H'
theorem told_of {es : List Ent} {ks : List KindD} {g : Str → FillD} (h4 : (es.map fun e => (e.1, e.2.2)) = (ks.map fun k => (k.name, g k.name))) :
    (∀ e ∈ es, e.1 ∈ ks.map (·.name) ∧ e.2.2 = g e.1) ∧ es.length = ks.length ∧ ∀ k ∈ ks, g k.name = toldF es k.name := by
  have hm : ∀ e ∈ es, e.1 ∈ ks.map (·.name) ∧ e.2.2 = g e.1 := fun e he => by
    have z : (e.1, e.2.2) ∈ ks.map fun k => (k.name, g k.name) := by
      rw [← h4]
      exact List.mem_map.mpr ⟨e, he, rfl⟩
    obtain ⟨k, hk, ek⟩ := List.mem_map.mp z
    have z1 : k.name = e.1 := congrArg Prod.fst ek
    have z2 : g k.name = e.2.2 := congrArg Prod.snd ek
    exact ⟨List.mem_map.mpr ⟨k, hk, z1⟩, by rw [← z2, z1]⟩
  refine ⟨hm, ?_, fun k hk => ?_⟩
  · have z := congrArg List.length h4
    rw [List.length_map, List.length_map] at z
    exact z
  · unfold toldF
    cases hf : es.find? (fun e => decide (e.1 = k.name)) with
    | none =>
      have z : (k.name, g k.name) ∈ es.map fun e => (e.1, e.2.2) := by
        rw [h4]
        exact List.mem_map.mpr ⟨k, hk, rfl⟩
      obtain ⟨e, he, ee⟩ := List.mem_map.mp z
      have := List.find?_eq_none.mp hf e he
      exact absurd (decide_eq_true (congrArg Prod.fst ee)) this
    | some e =>
      have e1 : e.1 = k.name := of_decide_eq_true (List.find?_some (p := fun e : Ent => decide (e.1 = k.name)) hf)
      have e2 := (hm e (List.mem_of_find?_eq_some hf)).2
      show g k.name = e.2.2
      rw [e2, e1]
theorem body_changed (T : Tx W) (cdv : Value) (A : Around) (outer : List Env) (s : Shared) (H : Hp) (vs : List V) (Q : VK) (E : XK) (hr : Room 9 (A.deeper (envOfC d_Convention_changed.qual (defScope d_Convention_changed.st) s.heap.objs.size (d_Convention_changed.ad W.K) cdv))) (h : sp_changed_in W.K vs H Q E) :
    ∃ t, PSs (cxOf CX0 W.P W.w W.K W.mg W.base ["self", "options", "name", "values"] d_Convention_changed.qual (defScope d_Convention_changed.st) (d_Convention_changed.ad W.K) cdv A outer s H E) (defBody d_Convention_changed.st) t ∧
      t { nx := fun _ H' => Q .non H', rt := Q } (start ["self", "options", "name", "values"] vs) H := by
  obtain ⟨fdK, FK, ⟨g, gV, hKB, rfl⟩, _⟩ := ok_Conv_all T
  obtain ⟨a, d, b, as, ks, c, c', ns, zs, tf, rfl, hC, ok', hd, hz, few, hin, hm, htf, q⟩ := h
  refine ⟨_, PSs.nox (pss_cons (ps_for PassesOwn.never rfl (pi_list (pe_callB cr_sortedS (by rfl) T.f_sorted (by decide +kernel) (pa_cons (pe_lock (pe_lc (own := [("name", 2)]) (g := gName 2) (tt := tYes) rfl sc_Conv_changed.nd (pi_keys (pv 1)) (blkOk_by (N := ["self", "options", "name", "values"]) (sc := defScope s_Convention_changed) (by decide +kernel))
        (fun _ _ _ _ _ => pg_name (i := 2) sc_Conv_changed.nd rfl (Or.inl rfl)) (fun _ _ _ _ _ => pts_nil)
        (fun _ _ _ _ _ => pe_callTy (T := "str") SkE.call_str_str (by rfl) T.f_str (by decide +kernel) (pa_cons (pv 2) pa_nil)))) pa_nil))) (pg_name (i := 2) sc_Conv_changed.nd rfl (Or.inl rfl))
      (pss_one (ps_if (pt_cmpR op_notIn_seq (pv 2) (pe_glob (v := .ref (ga W.K "OPTIONS")) (by rfl) T.g_OPTIONS rfl) rfl) pss_never pss_nil)))
    (pss_cons (ps_set (i := 3) sc_Conv_changed.nd rfl (Or.inl rfl) (pe_disp (pps_cons pe_str (pe_ix ix_tup (pe_fld (pv 0) rfl) pe_int (fun _ _ => rfl)) (pps_cons pe_str (pe_ix ix_tup (pe_fld (pv 0) rfl) pe_int (fun _ _ => rfl)) (pps_cons pe_str (pe_fld (pv 0) rfl) pps_nil))) rfl rfl (by simp) (by decide)))
    (pss_cons (ps_expr (pe_dupdate (pv 3) (pe_disp (pps_cons pe_str (pe_fld (pv 0) rfl) (pps_cons pe_str (pe_fld (pv 0) rfl) (pps_cons pe_str (pe_fld (pv 0) rfl) pps_nil))) rfl rfl (by simp) (by decide))))
    (pss_cons (ps_expr (pe_dupdate (pv 3) (pe_disp (pps_cons pe_str (pe_fld (pv 0) rfl) (pps_cons pe_str (pe_fld (pv 0) rfl) (pps_cons pe_str (pe_fld (pv 0) rfl) pps_nil))) rfl rfl (by simp) (by decide))))
    (pss_cons (ps_expr (pe_dupdate (pv 3) (pe_disp (pps_cons pe_str (pe_fld (pv 0) rfl) pps_nil) rfl rfl (by simp) (by decide))))
    (pss_cons (ps_expr (pe_dupdate (pv 3) (pv 1)))
    (pss_one (ps_ret (pe_makeKK T.mk_Convention FK (hr.mono (by decide)) (by rfl) T.g_Convention hKB pass0 (pa_cons (pe_fld (pv 0) rfl) pa_nil) (pv 3)))))))))), ?_⟩
  have lk : ((ns.map Sum.inr : List Key).zip zs).length = ns.length := by
    rw [List.length_zip, List.length_map]
    omega
  refine ⟨d, _, hd, True.intro, fun od => ⟨_, rfl, d, od, rfl, .inl ⟨_, upd_same, fun D hD => lc_pure walk_keys (ns.map V.str) ?_ ?_ hD (fun u => ?_) (fun i y z u H'' R R' hi hy hx r => ?_) ?_⟩⟩⟩
  · rw [List.length_map, lk]
  · rw [lk]
    omega
  · rw [upd_ne (ne_of_none upd_same hD)]
    exact upd_same
  · obtain ⟨rfl, kk, v, hkv, rfl⟩ := hx
    obtain ⟨n, hn1, rfl⟩ : ∃ n, ns[i]? = some n ∧ kk = Sum.inr n := by
      have z := List.getElem?_zip_eq_some.mp hkv
      have z1 := z.1
      rw [List.getElem?_map] at z1
      cases q : ns[i]? with
      | none =>
        rw [q] at z1
        cases z1
      | some n =>
        rw [q] at z1
        exact ⟨n, rfl, (Option.some.inj z1).symm⟩
    obtain rfl : V.str n = z := by
      rw [List.getElem?_map, hn1] at hy
      exact Option.some.inj hy
    exact ⟨rfl, _, rfl, n, rfl, r⟩
  · have dD : d ≠ D := ne_of_none upd_same hD
    refine ⟨by rw [upd_ne dD]; exact upd_same, D, ns, rfl, SqL.of ?_, by omega, fun ys p hys hso hp => ⟨p, rfl, ⟨_, SqL.of upd_same⟩, ?_⟩⟩
    · rw [upd_ne dD.symm]
      exact upd_same
    · have eH : Ex H (upd (upd (upd (upd H d (.frz od (.dK ((ns.map Sum.inr).zip zs)))) D (.lst (ns.map V.str))) d (.dK ((ns.map Sum.inr).zip zs))) p (.lst (ys.map V.str))) := by
        refine Ex.more (fun w o h => ?_) hp
        by_cases q : w = d
        · rw [q] at h ⊢
          rw [upd_same, ← hd]
          exact h.symm ▸ rfl
        · have h2 : upd H d (.frz od (.dK ((ns.map Sum.inr).zip zs))) w = some o := by
            rw [upd_ne q]
            exact h
          rw [upd_ne q, upd_ne (ne_of_none h2 hD)]
          exact h2
      have hpl := upd_same (H := upd (upd (upd H d (.frz od (.dK ((ns.map Sum.inr).zip zs)))) D (.lst (ns.map V.str))) d (.dK ((ns.map Sum.inr).zip zs))) (a := p) (o := .lst (ys.map V.str))
      generalize upd (upd (upd (upd H d (.frz od (.dK ((ns.map Sum.inr).zip zs)))) D (.lst (ns.map V.str))) d (.dK ((ns.map Sum.inr).zip zs))) p (.lst (ys.map V.str)) = H2 at eH hpl ⊢
      refine for_it (walk_list (xs := ys.map V.str)) (fun i σ Hc => Hc = H2 ∧ ∃ v, σ = [some (.ref a), some (.ref d), v, none]) ⟨rfl, none, rfl⟩ (fun i σ Hc _ h => by rw [h.1]; exact SqL.of hpl) (fun i y σ H3 H4 hi hP hY => ?_) (fun σ Hc hP => ?_)
      · obtain ⟨rfl, v, rfl⟩ := hP
        obtain ⟨rfl, hy⟩ := hY
        obtain ⟨n, hn, rfl⟩ : ∃ n, n ∈ ns ∧ y = .str n := by
          rw [List.getElem?_map] at hy
          cases q : ys[i]? with
          | none =>
            rw [q] at hy
            cases hy
          | some n =>
            rw [q] at hy
            exact ⟨n, hys.mem_iff.mp (List.mem_of_getElem? q), (Option.some.inj hy).symm⟩
        refine ⟨_, rfl, _, _, rfl, .inr (T.t_OPTIONS _), rfl, rfl, ?_⟩
        show ∃ k, V.bl (!inV (.str n) optN) = .bl k ∧ _
        rw [hin n hn]
        exact ⟨_, rfl, rfl, _, rfl⟩
      · obtain ⟨eHc, v, rfl⟩ := hP
        rw [eHc]
        clear eHc
        obtain ⟨⟨dx, cp, fp, es, h1, h2, h3, h4⟩, hB, okc, fok⟩ := hC
        have c1 := eH _ _ h1
        have c2 := eH _ _ h2
        -- a heap in which only the dict of the values differs
        have tD : ∀ {p : Addr} {H3 : Hp} {kvs : List (Key × V)}, H3 p = some (.dK kvs) → tyV W.K "dict" (.ref p) H3 := fun h => .inr (.inr (.inl ⟨rfl, .inl ⟨_, h⟩⟩))
        refine fun p0 hp0 => ?_
        have eA : Ex H2 (upd H2 p0 (.dK [])) := (Ex.refl _).more hp0
        refine ⟨_, rfl, a, _, dx, _, _, rfl, eA _ _ c1, T.cls_Convention, nfC T (by decide), rfl, cp, _, _, _, rfl, rfl, SqT.of (eA _ _ c2), rfl, _, rfl, a, _, dx, _, _, rfl, eA _ _ c1, T.cls_Convention, nfC T (by decide), rfl, cp, _, _, _, rfl, rfl, SqT.of (eA _ _ c2), rfl, _, rfl, a, _, dx, _, _, rfl, eA _ _ c1, T.cls_Convention, nfC T (by decide), rfl, upd_same,
          [(Sum.inr "wholes", .int c.wholes), (Sum.inr "floats", .int c.floats), (Sum.inr "together", .bl c.together)], rfl, (by show 3 ≤ 15; decide), ?_⟩
        rw [upd_upd, show mergeK [] [((Sum.inr "wholes" : Key), V.int c.wholes), (Sum.inr "floats", .int c.floats), (Sum.inr "together", .bl c.together)] = [((Sum.inr "wholes" : Key), V.int c.wholes), (Sum.inr "floats", .int c.floats), (Sum.inr "together", .bl c.together)] by kernel_rfl]
        -- a step: whatever is laid beside, and the dict of the values written
        have stepE : ∀ {Hn : Hp} {p1 : Addr} {k m : List (Key × V)} {u : HO}, Ex H2 Hn → Hn p0 = some (.dK k) → Hn p1 = none → Ex H2 (upd (upd Hn p1 u) p0 (.dK m)) := fun {Hn p1 k m u} e h0 h1 w o h => by
          rw [upd_ne (ne_of_none h hp0), upd_ne (ne_of_none (e w o h) h1)]
          exact e w o h
        have e0 : Ex H2 (upd H2 p0 (.dK [((Sum.inr "wholes" : Key), V.int c.wholes), (Sum.inr "floats", .int c.floats), (Sum.inr "together", .bl c.together)])) := (Ex.refl _).more hp0
        have q0 := upd_same (H := H2) (a := p0) (o := .dK [((Sum.inr "wholes" : Key), V.int c.wholes), (Sum.inr "floats", .int c.floats), (Sum.inr "together", .bl c.together)])
        generalize upd H2 p0 (.dK [((Sum.inr "wholes" : Key), V.int c.wholes), (Sum.inr "floats", .int c.floats), (Sum.inr "together", .bl c.together)]) = H3 at e0 q0 ⊢
        refine ⟨_, rfl, tD q0, fun p1 hp1 => ?_⟩
        have eB : Ex H3 (upd H3 p1 (.dK [])) := (Ex.refl _).more hp1
        refine ⟨_, rfl, a, _, dx, _, _, rfl, eB _ _ (e0 _ _ c1), T.cls_Convention, nfC T (by decide), rfl, _, rfl, a, _, dx, _, _, rfl, eB _ _ (e0 _ _ c1), T.cls_Convention, nfC T (by decide), rfl, _, rfl, a, _, dx, _, _, rfl, eB _ _ (e0 _ _ c1), T.cls_Convention, nfC T (by decide), rfl, upd_same,
          [(Sum.inr "doubles", .str c.doubles), (Sum.inr "again", .bl c.again), (Sum.inr "slot", .int c.slot)], rfl, (by show 3 ≤ 15; decide), ?_⟩
        rw [upd_upd]
        have n1 : p0 ≠ p1 := ne_of_none q0 hp1
        refine ⟨p0, p1, _, _, rfl, rfl, n1, (upd_ne n1).trans q0, .inl upd_same, (by rw [sizeLine_eq]; exact Nat.le_of_ble_eq_true (by kernel_rfl)), ?_⟩
        rw [show mergeV [((Sum.inr "wholes" : Key), V.int c.wholes), (Sum.inr "floats", .int c.floats), (Sum.inr "together", .bl c.together)] (mergeK [] [((Sum.inr "doubles" : Key), V.str c.doubles), (Sum.inr "again", .bl c.again), (Sum.inr "slot", .int c.slot)]) = [((Sum.inr "wholes" : Key), V.int c.wholes), (Sum.inr "floats", .int c.floats), (Sum.inr "together", .bl c.together)] ++ [((Sum.inr "doubles" : Key), V.str c.doubles), (Sum.inr "again", .bl c.again), (Sum.inr "slot", .int c.slot)] by kernel_rfl]
        have e1 := stepE (m := [((Sum.inr "wholes" : Key), V.int c.wholes), (Sum.inr "floats", .int c.floats), (Sum.inr "together", .bl c.together)] ++ [((Sum.inr "doubles" : Key), V.str c.doubles), (Sum.inr "again", .bl c.again), (Sum.inr "slot", .int c.slot)]) (u := .dK (mergeK [] [((Sum.inr "doubles" : Key), V.str c.doubles), (Sum.inr "again", .bl c.again), (Sum.inr "slot", .int c.slot)])) e0 q0 hp1
        have q1 := upd_same (H := upd H3 p1 (.dK (mergeK [] [((Sum.inr "doubles" : Key), V.str c.doubles), (Sum.inr "again", .bl c.again), (Sum.inr "slot", .int c.slot)]))) (a := p0) (o := .dK ([((Sum.inr "wholes" : Key), V.int c.wholes), (Sum.inr "floats", .int c.floats), (Sum.inr "together", .bl c.together)] ++ [((Sum.inr "doubles" : Key), V.str c.doubles), (Sum.inr "again", .bl c.again), (Sum.inr "slot", .int c.slot)]))
        generalize upd (upd H3 p1 (.dK (mergeK [] [((Sum.inr "doubles" : Key), V.str c.doubles), (Sum.inr "again", .bl c.again), (Sum.inr "slot", .int c.slot)]))) p0 (.dK ([((Sum.inr "wholes" : Key), V.int c.wholes), (Sum.inr "floats", .int c.floats), (Sum.inr "together", .bl c.together)] ++ [((Sum.inr "doubles" : Key), V.str c.doubles), (Sum.inr "again", .bl c.again), (Sum.inr "slot", .int c.slot)])) = H4 at e1 q1 ⊢
        refine ⟨_, rfl, tD q1, fun p2 hp2 => ?_⟩
        have eC : Ex H4 (upd H4 p2 (.dK [])) := (Ex.refl _).more hp2
        refine ⟨_, rfl, a, _, dx, _, _, rfl, eC _ _ (e1 _ _ c1), T.cls_Convention, nfC T (by decide), rfl, _, rfl, a, _, dx, _, _, rfl, eC _ _ (e1 _ _ c1), T.cls_Convention, nfC T (by decide), rfl, _, rfl, a, _, dx, _, _, rfl, eC _ _ (e1 _ _ c1), T.cls_Convention, nfC T (by decide), rfl, upd_same,
          [((Sum.inr "natural" : Key), V.bl c.natural), (Sum.inr "home", .int c.home), (Sum.inr "tail", .str c.tail)], rfl, (by show 3 ≤ 15; decide), ?_⟩
        rw [upd_upd]
        have n2 : p0 ≠ p2 := ne_of_none q1 hp2
        refine ⟨p0, p2, _, _, rfl, rfl, n2, (upd_ne n2).trans q1, .inl upd_same, (by rw [sizeLine_eq]; exact Nat.le_of_ble_eq_true (by kernel_rfl)), ?_⟩
        rw [show mergeV ([((Sum.inr "wholes" : Key), V.int c.wholes), (Sum.inr "floats", .int c.floats), (Sum.inr "together", .bl c.together)] ++ [((Sum.inr "doubles" : Key), V.str c.doubles), (Sum.inr "again", .bl c.again), (Sum.inr "slot", .int c.slot)]) (mergeK [] [((Sum.inr "natural" : Key), V.bl c.natural), (Sum.inr "home", .int c.home), (Sum.inr "tail", .str c.tail)]) = [((Sum.inr "wholes" : Key), V.int c.wholes), (Sum.inr "floats", .int c.floats), (Sum.inr "together", .bl c.together)] ++ [((Sum.inr "doubles" : Key), V.str c.doubles), (Sum.inr "again", .bl c.again), (Sum.inr "slot", .int c.slot)] ++ [((Sum.inr "natural" : Key), V.bl c.natural), (Sum.inr "home", .int c.home), (Sum.inr "tail", .str c.tail)] by kernel_rfl]
        have e2 := stepE (m := [((Sum.inr "wholes" : Key), V.int c.wholes), (Sum.inr "floats", .int c.floats), (Sum.inr "together", .bl c.together)] ++ [((Sum.inr "doubles" : Key), V.str c.doubles), (Sum.inr "again", .bl c.again), (Sum.inr "slot", .int c.slot)] ++ [((Sum.inr "natural" : Key), V.bl c.natural), (Sum.inr "home", .int c.home), (Sum.inr "tail", .str c.tail)]) (u := .dK (mergeK [] [((Sum.inr "natural" : Key), V.bl c.natural), (Sum.inr "home", .int c.home), (Sum.inr "tail", .str c.tail)])) e1 q1 hp2
        have q2 := upd_same (H := upd H4 p2 (.dK (mergeK [] [((Sum.inr "natural" : Key), V.bl c.natural), (Sum.inr "home", .int c.home), (Sum.inr "tail", .str c.tail)]))) (a := p0) (o := .dK ([((Sum.inr "wholes" : Key), V.int c.wholes), (Sum.inr "floats", .int c.floats), (Sum.inr "together", .bl c.together)] ++ [((Sum.inr "doubles" : Key), V.str c.doubles), (Sum.inr "again", .bl c.again), (Sum.inr "slot", .int c.slot)] ++ [((Sum.inr "natural" : Key), V.bl c.natural), (Sum.inr "home", .int c.home), (Sum.inr "tail", .str c.tail)]))
        generalize upd (upd H4 p2 (.dK (mergeK [] [((Sum.inr "natural" : Key), V.bl c.natural), (Sum.inr "home", .int c.home), (Sum.inr "tail", .str c.tail)]))) p0 (.dK ([((Sum.inr "wholes" : Key), V.int c.wholes), (Sum.inr "floats", .int c.floats), (Sum.inr "together", .bl c.together)] ++ [((Sum.inr "doubles" : Key), V.str c.doubles), (Sum.inr "again", .bl c.again), (Sum.inr "slot", .int c.slot)] ++ [((Sum.inr "natural" : Key), V.bl c.natural), (Sum.inr "home", .int c.home), (Sum.inr "tail", .str c.tail)])) = H5 at e2 q2 ⊢
        refine ⟨_, rfl, tD q2, fun p3 hp3 => ?_⟩
        have eD : Ex H5 (upd H5 p3 (.dK [])) := (Ex.refl _).more hp3
        refine ⟨_, rfl, a, _, dx, _, _, rfl, eD _ _ (e2 _ _ c1), T.cls_Convention, nfC T (by decide), rfl, upd_same, [((Sum.inr "fills" : Key), .ref fp)], rfl, (by show 1 ≤ 15; decide), ?_⟩
        rw [upd_upd]
        have n3 : p0 ≠ p3 := ne_of_none q2 hp3
        refine ⟨p0, p3, _, _, rfl, rfl, n3, (upd_ne n3).trans q2, .inl upd_same, (by rw [sizeLine_eq]; exact Nat.le_of_ble_eq_true (by kernel_rfl)), ?_⟩
        rw [show mergeV ([((Sum.inr "wholes" : Key), V.int c.wholes), (Sum.inr "floats", .int c.floats), (Sum.inr "together", .bl c.together)] ++ [((Sum.inr "doubles" : Key), V.str c.doubles), (Sum.inr "again", .bl c.again), (Sum.inr "slot", .int c.slot)] ++ [((Sum.inr "natural" : Key), V.bl c.natural), (Sum.inr "home", .int c.home), (Sum.inr "tail", .str c.tail)]) (mergeK [] [((Sum.inr "fills" : Key), V.ref fp)]) = baseKvs c fp by kernel_rfl]
        have e3 := stepE (m := baseKvs c fp) (u := .dK (mergeK [] [((Sum.inr "fills" : Key), V.ref fp)])) e2 q2 hp3
        have q3 := upd_same (H := upd H5 p3 (.dK (mergeK [] [((Sum.inr "fills" : Key), V.ref fp)]))) (a := p0) (o := .dK (baseKvs c fp))
        generalize upd (upd H5 p3 (.dK (mergeK [] [((Sum.inr "fills" : Key), V.ref fp)]))) p0 (.dK (baseKvs c fp)) = H6 at e3 q3 ⊢
        have d6 := e3 _ _ (eH _ _ hd)
        have nd : p0 ≠ d := (ne_of_none (eH _ _ hd) hp0).symm
        refine ⟨_, rfl, tD q3, _, rfl, p0, d, _, _, rfl, rfl, nd, q3, .inl d6, ?_, ?_⟩
        · rw [sizeLine_eq, lk]
          have z : (baseKvs c fp).length = 10 := rfl
          omega
        · rw [hm fp]
          generalize hfv : (match tf with | none => V.ref fp | some t => V.ref t.1) = fv
          have e7 : Ex H2 (upd H6 p0 (.dK ((kw10.map Sum.inr).zip (valsC c' fv)))) := fun w o h => by
            rw [upd_ne (ne_of_none h hp0)]
            exact e3 w o h
          have eAll : Ex H (upd H6 p0 (.dK ((kw10.map Sum.inr).zip (valsC c' fv)))) := fun w o h => e7 w o (eH w o h)
          have q7 := upd_same (H := H6) (a := p0) (o := .dK ((kw10.map Sum.inr).zip (valsC c' fv)))
          generalize upd H6 p0 (.dK ((kw10.map Sum.inr).zip (valsC c' fv))) = H7 at eAll e7 q7 ⊢
          refine ⟨_, rfl, a, _, dx, _, _, rfl, e7 _ _ c1, T.cls_Convention, nfC T (by decide), rfl, _, rfl, p0, _, rfl, .inl q7, rfl, rfl, fun x dx2 nx ndx ne => ?_⟩
          have up : Ex H (upd (upd H7 dx2 (.own x)) x (.ins (ga W.K "Convention") dx2 [])) := (eAll.more ndx).more (by rw [upd_ne ne.symm]; exact nx)
          have fin : ∀ es2 : List Ent, ((fv = .non ∧ es2 = []) ∨ ∃ d2, fv = .ref d2 ∧ FillsAt W.K H d2 es2) → (∀ e ∈ es2, e.1 ∈ ks.map (·.name)) → es2.length ≤ 5 → (∀ e ∈ es2, e.2.2.Ok) → (∀ k ∈ ks, c'.fill k.name = toldF es2 k.name) →
              sp_Conv_init W.K (.ref x :: .ref b :: valsC c' fv) (upd (upd H7 dx2 (.own x)) x (.ins (ga W.K "Convention") dx2 [])) (fun v H3 => v = .non ∧ Q (.ref x) H3) E0 := by
            intro es2 g1 g2 g3 g4 g5
            refine ⟨x, dx2, b, as, ks, c', fv, es2, rfl, upd_same, hB.ex_mono up, ok', ?_, g2, g3, g4, g5, fun H' e hC' => ⟨rfl, q H' x (fun w o h => ?_) (eAll.none nx) hC'⟩⟩
            · rcases g1 with h | ⟨d2, h, hF⟩
              · exact .inl h
              · exact .inr ⟨d2, h, hF.ex_mono up⟩
            · exact e w o (ne_of_none h (eAll.none nx)) (up w o h)
          cases tf with
          | none =>
            obtain ⟨t1, t2, t3⟩ := told_of h4
            have hf : c'.fill = c.fill := htf
            refine fin es (.inr ⟨fp, hfv.symm, h3⟩) (fun e he => (t1 e he).1) (by have := hB.few; omega) (fun e he => ?_) (fun k hk => by rw [hf]; exact t3 k hk)
            rw [(t1 e he).2]
            obtain ⟨k, hk, ek⟩ := List.mem_map.mp (t1 e he).1
            rw [← ek]
            exact fok k hk
          | some t =>
            obtain ⟨g1, g2, g3, g4, g5⟩ := htf
            exact fin t.2 (.inr ⟨t.1, hfv.symm, g1⟩) g2 g3 g4 g5
end
end U
/-! ## conventions.py: changed, called by keywords -/
namespace U
open PySem PySem.Spec PyProof.Rows L2 StX
section
variable {W : Wd}
def sp_changed (K : Fg) (ns : List Str) : List V → List V → Hp → VK → XK → Prop := fun vs zs H Q E => vs.length = 1 ∧ ∀ d, H d = none → sp_changed_in K (vs ++ [V.ref d]) (upd H d (.dK ((ns.map Sum.inr : List Key).zip zs))) Q E
theorem ok_changed (T : Tx W) (ns : List Str) (hn : ns.Nodup) (hz : ns.length ≤ 1000)
    (hb : ∀ (kV doc pm : Value) (an : Option Addr) (cdv ct : Value) (us ws : List Value), us.length = 1 → ws.length = ns.length → bindArgs (PySem.W.fnOf d_Convention_changed.name d_Convention_changed.qual (defArgs s_Convention_changed) (defBody s_Convention_changed) (defScope s_Convention_changed) .none kV doc pm an cdv ct) ⟨us, ns.zip ws⟩ =
      ((alloc ({ cls := .type "dict", data := .dict #[] } : Obj) : Sem Addr) >>= fun d => (forIn (ns.zip ws) PUnit.unit fun x _ => (nsSet d x.1 x.2 >>= fun _ => pure (ForInStep.yield PUnit.unit))) >>= fun _ => pure ((["self"] : List Str).zip us ++ [((Str.ofString "options"), Value.ref d)]))) :
    FnKw W.P W.w W.K W.mg W.base CX0 10 (ca "Convention" "changed" W.K) ns (sp_changed W.K ns) := by
  obtain ⟨fd, F⟩ := T.d_Convention_changed
  obtain ⟨oc, od, dV, kV, doc, pm, an, cdv, ct, osl, rfl, lk, hcd, hD, _⟩ := F.ex
  obtain rfl : dV = .none := by
    rcases hD with ⟨_, e⟩ | ⟨e, _⟩
    · exact e
    · exact absurd rfl e
  exact fn_kwargs (ps := ["self"]) (pd := "options") (N := ["self", "options", "name", "values"]) (sp := sp_changed_in W.K) lk hcd sc_Conv_changed cxUp_none hn hz (fun us ws h1 h2 => hb kV doc pm an cdv ct us ws h1 h2) (fun A outer s H vs Q E hr h => body_changed T cdv A outer s H vs Q E hr h)
theorem ok_changed_fills (T : Tx W) : FnKw W.P W.w W.K W.mg W.base CX0 10 (ca "Convention" "changed" W.K) ["fills"] (sp_changed W.K ["fills"]) := by
  refine ok_changed T _ (by decide) (by decide) (fun kV doc pm an cdv ct us ws h1 h2 => ?_)
  match us, h1, ws, h2 with
  | [u], _, [w1], _ => kernel_rfl
theorem ok_changed_four (T : Tx W) : FnKw W.P W.w W.K W.mg W.base CX0 10 (ca "Convention" "changed" W.K) ["doubles", "again", "slot", "natural"] (sp_changed W.K ["doubles", "again", "slot", "natural"]) := by
  refine ok_changed T _ (by decide) (by decide) (fun kV doc pm an cdv ct us ws h1 h2 => ?_)
  match us, h1, ws, h2 with
  | [u], _, [w1, w2, w3, w4], _ => kernel_rfl
theorem ok_changed_three (T : Tx W) : FnKw W.P W.w W.K W.mg W.base CX0 10 (ca "Convention" "changed" W.K) ["home", "tail", "fills"] (sp_changed W.K ["home", "tail", "fills"]) := by
  refine ok_changed T _ (by decide) (by decide) (fun kV doc pm an cdv ct us ws h1 h2 => ?_)
  match us, h1, ws, h2 with
  | [u], _, [w1, w2, w3], _ => kernel_rfl
end
end U
/-! ## texts.py: lines -/
namespace U
open PySem PySem.Spec PyProof.Rows L2 StX
section
variable {W : Wd}
def numS (i : Int) : Str := Str.ofString (toString i)
def kindLine (k : KindD) : Str := ((((((((((Str.empty ++ Str.ofString "kind ") ++ k.name) ++ Str.ofString " ") ++ k.group) ++ Str.ofString " ") ++ numS k.size) ++ Str.ofString " ") ++ numS k.width) ++ Str.ofString " ") ++ numS k.align)
theorem str_len (a b : Str) : (a ++ b).length = a.length + b.length := by
  show (a.cps ++ b.cps).size = _
  exact Array.size_append
theorem num_small : ∀ n : Nat, n < 129 → (numS (n : Int)).length ≤ 3 := by decide +kernel
theorem num_le {i : Int} (h0 : 0 ≤ i) (h1 : i ≤ 128) : (numS i).length ≤ 3 := by
  have z := num_small i.toNat (by omega)
  rwa [Int.toNat_of_nonneg h0] at z
/-- the bounds of a good kind's parts -/
theorem kind_le {k : KindD} (ok : k.ok = true) : k.name.length ≤ 8 ∧ k.group.length ≤ 5 ∧ (0 ≤ k.size ∧ k.size ≤ 128) ∧ (0 ≤ k.width ∧ k.width ≤ 128) ∧ (0 ≤ k.align ∧ k.align ≤ 128) := by
  obtain ⟨o1, o2⟩ := He.ba ok
  obtain ⟨o3, o4⟩ := He.ba o2
  obtain ⟨o5, o6⟩ := He.ba o4
  obtain ⟨o7, o8⟩ := He.ba o6
  have hs : 0 ≤ k.size ∧ k.size ≤ 16 := by
    rcases size_cases o5 with h | h | h | h | h <;> (injection h with h; rw [h]; decide)
  have ha : 0 ≤ k.align ∧ k.align ≤ 16 := by
    rcases size_cases o8 with h | h | h | h | h <;> (injection h with h; rw [h]; decide)
  have hw : (if k.size = 16 then 65 else 2) ≤ k.width ∧ k.width ≤ 8 * k.size := by
    have := He.ba o7
    exact ⟨of_decide_eq_true this.1, of_decide_eq_true this.2⟩
  have hg : k.group.length ≤ 5 := by
    have h3 : k.group ∈ [Str.ofString "whole", Str.ofString "float"] := of_decide_eq_true ((inV_strs k.group [Str.ofString "whole", Str.ofString "float"]).symm.trans o3)
    simp at h3
    rcases h3 with h | h <;> rw [h] <;> decide
  refine ⟨of_decide_eq_true (He.ba (He.ba o1).2).1, hg, ⟨hs.1, by omega⟩, ⟨?_, by omega⟩, ⟨ha.1, by omega⟩⟩
  have := hw.1
  split at this <;> omega
theorem log_le {i : Int} (h0 : 0 ≤ i) (h1 : i ≤ 128) : i.natAbs.log2 < 1920 := by
  have : i.natAbs < 2 ^ 8 := by omega
  rcases Nat.eq_zero_or_pos i.natAbs with z | z
  · rw [z]; decide
  · exact Nat.lt_trans ((Nat.log2_lt (by omega)).2 this) (by decide)
theorem sc_kind_line : FnScope ["kind"] ["kind"] (defScope s_kind_line) := ⟨rfl, rfl, rfl, by decide +kernel, rfl, by decide +kernel, by decide +kernel⟩
def sp_kind_line (K : Fg) : Sp := fun vs H Q _ => ∃ (a : Addr) (k : KindD), vs = [.ref a] ∧ KindAt K H a k ∧ k.ok = true ∧ Q (.str (kindLine k)) H
theorem ok_kind_line (T : Tx W) : Fn W CX0 3 (ga W.K "kind_line") ["kind"] (sp_kind_line W.K) := by
  obtain ⟨fd, F⟩ := T.d_kind_line
  refine ⟨⟨fd, ?_, F.bindsN fun _ _ _ _ _ _ us hl => match us, hl with | [_], _ => rfl⟩, F.kp⟩
  refine F.ok sc_kind_line (fun vs H Q E h => ?_) (fun cdv A outer s H vs Q E hr h => ?_)
  · obtain ⟨a, k, rfl, _⟩ := h
    rfl
  · obtain ⟨a, k, rfl, ⟨dx, ha⟩, ok, q⟩ := h
    refine ⟨_, PSs.nox (pss_one (ps_ret (pe_joined (.cons pe_str (.cons (pe_fmt (u_prop (ok_Kind_name T) T.cls_Kind T.p_Kind_name hr (pv 0))) (.cons pe_str (.cons (pe_fmt (u_prop (ok_Kind_group T) T.cls_Kind T.p_Kind_group hr (pv 0))) (.cons pe_str (.cons (pe_fmt (u_prop (ok_Kind_size T) T.cls_Kind T.p_Kind_size hr (pv 0))) (.cons pe_str (.cons (pe_fmt (u_prop (ok_Kind_width T) T.cls_Kind T.p_Kind_width hr (pv 0))) (.cons pe_str (.cons (pe_fmt (u_prop (ok_Kind_align T) T.cls_Kind T.p_Kind_align hr (pv 0))) .nil))))))))))))), ?_⟩
    obtain ⟨l1, l2, ⟨s0, s1⟩, ⟨w0, w1⟩, ⟨a0, a1⟩⟩ := kind_le ok
    have n1 := num_le s0 s1
    have n2 := num_le w0 w1
    have n3 := num_le a0 a1
    have hs : ∀ z : Str, z.length ≤ 40 → z.length ≤ sizeLine := fun z h => by
      rw [sizeLine_eq]; omega
    have c5 : (Str.ofString "kind ").length = 5 := rfl
    have c1 : (Str.ofString " ").length = 1 := rfl
    have c0 : Str.empty.length = 0 := rfl
    unfold numS at n1 n2 n3
    exact ⟨_, rfl, hs _ (by simp only [str_len, c5, c1, c0]; omega), ⟨_, rfl, a, dx, _, rfl, ha, a, dx, _, _, rfl, ha, rfl, .inl ⟨_, rfl, hs _ (by omega), _, rfl, hs _ (by simp only [str_len, c5, c1, c0]; omega), ⟨_, rfl, hs _ (by simp only [str_len, c5, c1, c0]; omega), ⟨_, rfl, a, dx, _, rfl, ha, a, dx, _, _, rfl, ha, rfl, .inl ⟨_, rfl, hs _ (by omega), _, rfl, hs _ (by simp only [str_len, c5, c1, c0]; omega), ⟨_, rfl, hs _ (by simp only [str_len, c5, c1, c0]; omega), ⟨_, rfl, a, dx, _, rfl, ha, a, dx, _, _, rfl, ha, rfl, .inr ⟨_, rfl, log_le s0 s1, _, rfl, hs _ (by have z := n1; unfold numS at *; simp only [str_len, c5, c1, c0]; omega), ⟨_, rfl, hs _ (by simp only [str_len, c5, c1, c0]; omega), ⟨_, rfl, a, dx, _, rfl, ha, a, dx, _, _, rfl, ha, rfl, .inr ⟨_, rfl, log_le w0 w1, _, rfl, hs _ (by have z := n2; unfold numS at *; simp only [str_len, c5, c1, c0]; omega), ⟨_, rfl, hs _ (by simp only [str_len, c5, c1, c0]; omega), ⟨_, rfl, a, dx, _, rfl, ha, a, dx, _, _, rfl, ha, rfl, .inr ⟨_, rfl, log_le a0 a1, _, rfl, hs _ (by have z := n3; unfold numS at *; simp only [str_len, c5, c1, c0]; omega), q⟩⟩⟩⟩⟩⟩⟩⟩⟩⟩⟩⟩⟩⟩⟩
end
end U
/-! ## texts.py: fill_lines -/
namespace U
open PySem PySem.Spec PyProof.Rows L2 StX
section
variable {W : Wd}
def extS : V → Str
  | .int i => numS i
  | _ => Str.empty
def fillLine (n : Str) (f : FillD) : Str := (((((Str.empty ++ Str.ofString "fill ") ++ n) ++ Str.ofString " ") ++ f.word) ++ Str.ofString " ") ++ extS f.ext
def isTold (f : FillD) : Bool := decide (f.word ≠ FREE)
def fillLines (g : Str → FillD) (ns : List Str) : List Str := (ns.filter fun n => isTold (g n)).map fun n => fillLine n (g n)
theorem fillLines_snoc (g : Str → FillD) (ns : List Str) (n : Str) : fillLines g (ns ++ [n]) = fillLines g ns ++ if isTold (g n) = true then [fillLine n (g n)] else [] := by
  unfold fillLines
  rw [List.filter_append, List.map_append]
  congr 1
  by_cases h : isTold (g n) = true
  · rw [if_pos h, List.filter_cons, if_pos h]
    rfl
  · rw [if_neg h, List.filter_cons, if_neg h]
    rfl
theorem fillLines_len (g : Str → FillD) (ns : List Str) : (fillLines g ns).length ≤ ns.length := by
  unfold fillLines
  rw [List.length_map]
  exact List.length_filter_le _ _
theorem sc_fill_lines : FnScope ["convention", "found", "name", "fill"] ["convention"] (defScope s_fill_lines) := ⟨rfl, rfl, rfl, by decide +kernel, rfl, by decide +kernel, by decide +kernel⟩
def sp_fill_lines (K : Fg) : Sp := fun vs H Q _ => ∃ (a b : Addr) (as : List Addr) (ks : List KindD) (c : ConvD), vs = [.ref a] ∧ ConvAt K H a b as ks c ∧
  ∀ H' p, Ex H H' → H p = none → H' p = some (.lst ((fillLines c.fill (ks.map (·.name))).map V.str)) → Q (.ref p) H'
theorem ConvAt.ex_mono {K : Fg} {H H' : Hp} {a b : Addr} {as : List Addr} {ks : List KindD} {c : ConvD} (x : ConvAt K H a b as ks c) (e : Ex H H') : ConvAt K H' a b as ks c := by
  obtain ⟨⟨dx, cp, fp, es, h1, h2, h3, h4⟩, hB, ok, fok⟩ := x
  exact ⟨⟨dx, cp, fp, es, e _ _ h1, e _ _ h2, h3.ex_mono e, h4⟩, hB.ex_mono e, ok, fok⟩
theorem ok_fill_lines (T : Tx W) : Fn W CX0 3 (ga W.K "fill_lines") ["convention"] (sp_fill_lines W.K) := by
  obtain ⟨fd, F⟩ := T.d_fill_lines
  obtain ⟨t1, c1⟩ := T.c_FREE
  refine ⟨⟨fd, ?_, F.bindsN fun _ _ _ _ _ _ us hl => match us, hl with | [_], _ => rfl⟩, F.kp⟩
  refine F.ok sc_fill_lines (fun vs H Q E h => ?_) (fun cdv A outer s H vs Q E hr h => ?_)
  · obtain ⟨a, b, as, ks, c, rfl, _⟩ := h
    rfl
  · obtain ⟨a, b, as, ks, c, rfl, hC, q⟩ := h
    refine ⟨_, PSs.nox (pss_cons (ps_set (i := 1) sc_fill_lines.nd rfl (Or.inl rfl) (pe_lst pa_nil))
      (pss_cons (ps_for PassesOwn.never rfl (pi_list (u_meth0 (ok_Book_names T) T.cls_Book T.m_Book_names hr (u_prop (ok_Convention_book T) T.cls_Convention T.p_Convention_book hr (pv 0)))) (pg_name (i := 2) sc_fill_lines.nd rfl (Or.inl rfl))
        (pss_cons (ps_set (i := 3) sc_fill_lines.nd rfl (Or.inl rfl) (u_meth (ok_Conv_fill T) T.cls_Convention T.m_Convention_fill hr (pv 0) (pa_cons (pv 2) pa_nil)))
        (pss_one (ps_if (pt_cmpR op_ne (u_prop (ok_Fill_word T) T.cls_Fill T.p_Fill_word hr (pv 3)) (pe_glob (v := .str FREE) (by rfl) c1 ⟨_, rfl⟩) (nomark _))
          (pss_one (ps_expr (pe_bm PySem.F.plainAttrs_list PySem.F.slot_list_append PySem.F.type_list_append mt_append (pv 1) (pa_cons (pe_joined (.cons pe_str (.cons (pe_fmt (pv 2)) (.cons pe_str (.cons (pe_fmt (u_prop (ok_Fill_word T) T.cls_Fill T.p_Fill_word hr (pv 3))) (.cons pe_str (.cons (pe_fmt (u_prop (ok_Fill_extent T) T.cls_Fill T.p_Fill_extent hr (pv 3))) .nil))))))) pa_nil)))) pss_nil))))
      (pss_one (ps_ret (pv 1))))), ?_⟩
    obtain ⟨⟨dx, cp, fp, es, h1, h2, h3, h4⟩, hB, okc, fok⟩ := id hC
    obtain ⟨dxb, pb, qb, rb, rsb, hb1, _⟩ := hB.ex
    have few := hB.few
    refine ⟨by show 0 ≤ sizeLine; decide, fun p hp => ?_⟩
    have e0 : Ex H (upd H p (.lst [])) := (Ex.refl H).more hp
    have c0 := hC.ex_mono e0
    refine ⟨_, rfl, a, dx, _, rfl, e0 _ _ h1, a, dx, _, _, rfl, e0 _ _ h1, rfl, b, dxb, _, rfl, e0 _ _ hb1, rfl, b, as, ks, rfl, hB.ex_mono e0, fun r hr1 => ?_⟩
    have pr : p ≠ r := ne_of_none (upd_same (H := H) (a := p)) hr1
    have en : (ks.map fun k => V.str k.name) = (ks.map (·.name)).map V.str := by rw [List.map_map]; rfl
    rw [en]
    refine ⟨r, rfl, ⟨_, SqL.of upd_same⟩, for_it (walk_list (xs := (ks.map (·.name)).map V.str)) (fun i σ Hc => Ex H Hc ∧ Hc p = some (.lst ((fillLines c.fill ((ks.map (·.name)).take i)).map V.str)) ∧ Hc r = some (.lst ((ks.map (·.name)).map V.str)) ∧ ∃ v w, σ = [some (.ref a), some (.ref p), v, w])
      ⟨e0.more hr1, (upd_ne pr).trans upd_same, upd_same, none, none, rfl⟩ (fun i σ Hc _ h => SqL.of h.2.2.1) (fun i y σ H1 H2 hi hP hY => ?_) (fun σ Hc hP => ?_)⟩
    · obtain ⟨ec, hpc, hrc, v, w, rfl⟩ := hP
      obtain ⟨rfl, hy⟩ := hY
      obtain ⟨n, hn, rfl⟩ : ∃ n, (ks.map (·.name))[i]? = some n ∧ y = .str n := by
        rw [List.getElem?_map] at hy
        cases e : (ks.map (·.name))[i]? with
        | none =>
          rw [e] at hy
          cases hy
        | some n =>
          rw [e] at hy
          exact ⟨n, rfl, (Option.some.inj hy).symm⟩
      have hmem := List.mem_of_getElem? hn
      obtain ⟨k, hk, ek⟩ := List.mem_map.mp hmem
      have hf : (c.fill n).Ok := by rw [← ek]; exact fok k hk
      have hnl : n.length ≤ 8 := by rw [← ek]; exact (kind_le (hB.ok k hk)).1
      refine ⟨_, rfl, a, dx, _, rfl, ec _ _ h1, rfl, _, rfl, a, b, as, ks, c, n, rfl, hC.ex_mono ec, hmem, fun f ⟨df, hfa⟩ => ?_⟩
      refine ⟨_, rfl, f, df, _, rfl, hfa, f, df, _, _, rfl, hfa, rfl, rfl, _, rfl, ?_⟩
      rw [eS]
      have et := take_get hn
      have key : ∀ b : Bool, isTold (c.fill n) = b → fillLines c.fill ((ks.map (·.name)).take (i + 1)) = fillLines c.fill ((ks.map (·.name)).take i) ++ if b = true then [fillLine n (c.fill n)] else [] := fun b hb => by
        rw [← et, fillLines_snoc, hb]
      have ed : (!decide ((c.fill n).word = FREE)) = isTold (c.fill n) := by
        unfold isTold
        rw [Bool.eq_iff_iff]
        simp
      rw [ed]
      refine iteB (fun hd => ?_) (fun hd => ⟨ec, ?_, hrc, _, _, rfl⟩)
      · rcases hf with ⟨z, _⟩ | ⟨hw, x, hx, x0, x1⟩
        · unfold isTold at hd
          exact absurd z (of_decide_eq_true hd)
        · have hwl : (c.fill n).word.length ≤ 5 := by
            rcases hw with z | z <;> rw [z] <;> decide
          have hs : ∀ z : Str, z.length ≤ 40 → z.length ≤ sizeLine := fun z h => by
            rw [sizeLine_eq]; omega
          have c5 : (Str.ofString "fill ").length = 5 := rfl
          have c1 : (Str.ofString " ").length = 1 := rfl
          have c0 : Str.empty.length = 0 := rfl
          have n1 := num_le (by omega : 0 ≤ x) x1
          have ll : ((fillLines c.fill ((ks.map (·.name)).take i)).map V.str).length < sizeLine := by
            rw [List.length_map, sizeLine_eq]
            have z1 := fillLines_len c.fill ((ks.map (·.name)).take i)
            rw [List.length_take, List.length_map] at z1
            omega
          refine ⟨_, rfl, .inl ⟨rfl, _, SqL.of hpc⟩, _, rfl, hs _ (by simp only [str_len, c5, c1, c0]; omega), ⟨_, rfl, .inl ⟨_, rfl, hs _ (by omega), _, rfl, hs _ (by simp only [str_len, c5, c1, c0]; omega), ⟨_, rfl, hs _ (by simp only [str_len, c5, c1, c0]; omega), ⟨_, rfl, f, df, _, rfl, hfa, f, df, _, _, rfl, hfa, rfl, .inl ⟨_, rfl, hs _ (by omega), _, rfl, hs _ (by simp only [str_len, c5, c1, c0]; omega), ⟨_, rfl, hs _ (by simp only [str_len, c5, c1, c0]; omega), ⟨_, rfl, f, df, _, rfl, hfa, f, df, _, _, rfl, hfa, rfl, .inr ⟨x, hx, log_le (by omega) x1, _, rfl, hs _ (by unfold numS at *; simp only [str_len, c5, c1, c0]; omega), ?_⟩⟩⟩⟩⟩⟩⟩⟩⟩
          refine ⟨p, _, _, rfl, rfl, hpc, ll, ?_⟩
          have npr : r ≠ p := pr.symm
          refine ⟨fun u o hu => ?_, ?_, (upd_ne npr).trans hrc, _, _, rfl⟩
          · rw [upd_ne (ne_of_none hu hp)]
            exact ec u o hu
          · rw [upd_same, key true hd, if_pos rfl, List.map_append]
            show some (HO.lst (_ ++ [V.str _])) = some (.lst (_ ++ [V.str (fillLine n (c.fill n))]))
            unfold fillLine
            rw [hx]
            rfl
      · rw [key false hd, if_neg (by intro z; cases z), List.append_nil]
        exact hpc
    · obtain ⟨ec, hpc, hrc, v, w, rfl⟩ := hP
      refine ⟨_, rfl, q Hc p ec hp ?_⟩
      rw [hpc]
      congr 4
      rw [List.length_map, List.take_length]
end
end U
/-! ## texts.py: text_of -/
namespace U
open PySem PySem.Spec PyProof.Rows L2 StX
section
variable {W : Wd}
def regLine (c : ConvD) : Str := (((Str.empty ++ Str.ofString "registers ") ++ numS c.wholes) ++ Str.ofString " ") ++ numS c.floats
def optLines (c : ConvD) : List Str := [regLine c, (Str.empty ++ Str.ofString "together ") ++ yesNo c.together, (Str.empty ++ Str.ofString "doubles ") ++ c.doubles, (Str.empty ++ Str.ofString "again ") ++ yesNo c.again,
  (Str.empty ++ Str.ofString "slot ") ++ numS c.slot, (Str.empty ++ Str.ofString "natural ") ++ yesNo c.natural, (Str.empty ++ Str.ofString "home ") ++ numS c.home, (Str.empty ++ Str.ofString "tail ") ++ c.tail]
def textLines (ks : List KindD) (c : ConvD) : List Str := ks.map kindLine ++ (optLines c ++ fillLines c.fill (ks.map (·.name)))
def lineLf (l : Str) : Str := (Str.empty ++ l) ++ Str.ofString "\n"
def textOf (ks : List KindD) (c : ConvD) : Str := Txt.join Str.empty ((textLines ks c).map lineLf)
theorem yesNo_le (b : Bool) : (yesNo b).length ≤ 3 := by cases b <;> decide
theorem doubles_le {c : ConvD} (ok : c.Ok) : c.doubles.length ≤ 5 := by
  rcases ok.doubles with h | h | h <;> rw [h] <;> decide
theorem tail_le {c : ConvD} (ok : c.Ok) : c.tail.length ≤ 5 := by
  rcases ok.tail with h | h <;> rw [h] <;> decide
theorem slot_le {c : ConvD} (ok : c.Ok) : 0 ≤ c.slot ∧ c.slot ≤ 128 := by
  rcases ok.slot with h | h <;> rw [h] <;> decide
theorem home_le {c : ConvD} (ok : c.Ok) : 0 ≤ c.home ∧ c.home ≤ 128 := by
  rcases ok.home with h | h | h <;> rw [h] <;> decide
theorem kindLine_le {k : KindD} (ok : k.ok = true) : (kindLine k).length ≤ 40 := by
  obtain ⟨l1, l2, ⟨s0, s1⟩, ⟨w0, w1⟩, ⟨a0, a1⟩⟩ := kind_le ok
  have n1 := num_le s0 s1
  have n2 := num_le w0 w1
  have n3 := num_le a0 a1
  have c5 : (Str.ofString "kind ").length = 5 := rfl
  have c1 : (Str.ofString " ").length = 1 := rfl
  have c0 : Str.empty.length = 0 := rfl
  unfold kindLine
  simp only [str_len, c5, c1, c0]
  omega
theorem fillLine_le {n : Str} {f : FillD} (hn : n.length ≤ 8) (hf : f.Ok) : (fillLine n f).length ≤ 40 := by
  have c5 : (Str.ofString "fill ").length = 5 := rfl
  have c1 : (Str.ofString " ").length = 1 := rfl
  have c0 : Str.empty.length = 0 := rfl
  unfold fillLine
  rcases hf with ⟨z, zx⟩ | ⟨hw, x, hx, x0, x1⟩
  · have hwl : f.word.length ≤ 5 := by rw [z]; decide
    have hxl : (extS f.ext).length = 0 := by rw [zx]; rfl
    simp only [str_len, c5, c1, c0]
    omega
  · have hwl : f.word.length ≤ 5 := by rcases hw with z | z <;> rw [z] <;> decide
    have hxl : (extS f.ext).length ≤ 3 := by rw [hx]; exact num_le (by omega) x1
    simp only [str_len, c5, c1, c0]
    omega
theorem optLines_le {c : ConvD} (ok : c.Ok) : ∀ l ∈ optLines c, l.length ≤ 40 := by
  have a1 := num_le ok.wholes.1 (by have := ok.wholes.2; omega)
  have a2 := num_le ok.floats.1 (by have := ok.floats.2; omega)
  have a3 := yesNo_le c.together
  have a4 := yesNo_le c.again
  have a5 := yesNo_le c.natural
  have a6 := doubles_le ok
  have a7 := tail_le ok
  have a8 := num_le (slot_le ok).1 (slot_le ok).2
  have a9 := num_le (home_le ok).1 (home_le ok).2
  have c0 : Str.empty.length = 0 := rfl
  have d1 : (Str.ofString "registers ").length = 10 := rfl
  have d2 : (Str.ofString " ").length = 1 := rfl
  have d3 : (Str.ofString "together ").length = 9 := rfl
  have d4 : (Str.ofString "doubles ").length = 8 := rfl
  have d5 : (Str.ofString "again ").length = 6 := rfl
  have d6 : (Str.ofString "slot ").length = 5 := rfl
  have d7 : (Str.ofString "natural ").length = 8 := rfl
  have d8 : (Str.ofString "home ").length = 5 := rfl
  have d9 : (Str.ofString "tail ").length = 5 := rfl
  intro l hl
  unfold optLines regLine at hl
  simp only [List.mem_cons, List.not_mem_nil, or_false] at hl
  rcases hl with h | h | h | h | h | h | h | h <;> subst h <;> simp only [str_len, c0, d1, d2, d3, d4, d5, d6, d7, d8, d9] <;> omega
theorem textLines_le {ks : List KindD} {c : ConvD} (hk : ∀ k ∈ ks, k.ok = true) (ok : c.Ok) (fok : ∀ k ∈ ks, (c.fill k.name).Ok) : ∀ l ∈ textLines ks c, l.length ≤ 40 := by
  intro l hl
  unfold textLines at hl
  rcases List.mem_append.mp hl with h | h
  · obtain ⟨k, hm, rfl⟩ := List.mem_map.mp h
    exact kindLine_le (hk k hm)
  · rcases List.mem_append.mp h with h | h
    · exact optLines_le ok l h
    · unfold fillLines at h
      obtain ⟨n, hn, rfl⟩ := List.mem_map.mp h
      obtain ⟨k, hm, rfl⟩ := List.mem_map.mp (List.mem_filter.mp hn).1
      exact fillLine_le (kind_le (hk k hm)).1 (fok k hm)
theorem textLines_few {ks : List KindD} {c : ConvD} (h : ks.length ≤ 5) : (textLines ks c).length ≤ 18 := by
  unfold textLines
  rw [List.length_append, List.length_append, List.length_map]
  have z := fillLines_len c.fill (ks.map (·.name))
  rw [List.length_map] at z
  have z2 : (optLines c).length = 8 := rfl
  omega
theorem sum_le {n : Nat} : ∀ l : List Nat, (∀ x ∈ l, x ≤ n) → l.sum ≤ l.length * n
  | [], _ => by simp
  | x :: r, h => by
    have h1 := h x (.head _)
    have h2 := sum_le r fun y hy => h y (.tail _ hy)
    rw [List.sum_cons, List.length_cons, Nat.add_mul]
    omega
theorem sc_text_of : FnScope ["convention", "lines", "kind", "line"] ["convention"] (defScope s_text_of) := ⟨rfl, rfl, rfl, by decide +kernel, rfl, by decide +kernel, by decide +kernel⟩
def sp_text_of (K : Fg) : Sp := fun vs H Q _ => ∃ (a b : Addr) (as : List Addr) (ks : List KindD) (c : ConvD), vs = [.ref a] ∧ ConvAt K H a b as ks c ∧ ∀ H', Ex H H' → Q (.str (textOf ks c)) H'
theorem Ex.put {H Hc : Hp} {D : Addr} {u : HO} (e : Ex H Hc) (hD : H D = Option.none) : Ex H (upd Hc D u) := fun w o h => by
  rw [upd_ne (ne_of_none h hD)]
  exact e w o h
theorem ok_text_of_kw (T : Tx W) : ∃ fd, FnOk W.P W.w W.K W.mg W.base CX0 4 (ga W.K "text_of") fd ["convention"] (sp_text_of W.K) ∧ Binds W.K fd ["convention"] [] ∧ Kw1 W.K fd "convention" := by
  obtain ⟨fd, F⟩ := T.d_text_of
  refine ⟨fd, ?_, F.bindsN fun _ _ _ _ _ _ us hl => match us, hl with | [_], _ => rfl, kw1_of F fun _ _ _ _ _ _ _ => rfl⟩
  refine F.ok sc_text_of (fun vs H Q E h => ?_) (fun cdv A outer s H vs Q E hr h => ?_)
  · obtain ⟨a, b, as, ks, c, rfl, _⟩ := h
    rfl
  · obtain ⟨a, b, as, ks, c, rfl, hC, q⟩ := h
    refine ⟨_, PSs.nox (pss_cons (ps_expr (u_call (ok_want_convention T) T.g_want_convention hr (pa_cons (pv 0) pa_nil)))
      (pss_cons (ps_setLc (i := 1) (own := [("kind", 2)]) (g := gName 2) (tt := tYes) rfl sc_text_of.nd rfl rfl (sw_true rfl rfl rfl (by decide +kernel)) (pi_list (u_meth0 (ok_Book_kinds T) T.cls_Book T.m_Book_kinds hr (u_prop (ok_Convention_book T) T.cls_Convention T.p_Convention_book hr (pv 0)))) (blkOk_by (N := ["convention", "lines", "kind", "line"]) (sc := defScope s_text_of) (by decide +kernel))
        (fun _ _ _ _ _ => pg_name (i := 2) sc_text_of.nd rfl (Or.inl rfl)) (fun _ _ _ _ _ => pts_nil) (fun _ _ _ _ _ => u_call (ok_kind_line T) T.g_kind_line hr (pa_cons (pv 2) pa_nil)))
      (pss_cons (ps_expr (pe_bm PySem.F.plainAttrs_list PySem.F.slot_list_append PySem.F.type_list_append mt_append (pv 1) (pa_cons (pe_joined (.cons pe_str (.cons (pe_fmt (u_prop (ok_Conv_wholes T) T.cls_Convention T.p_Convention_wholes hr (pv 0))) (.cons pe_str (.cons (pe_fmt (u_prop (ok_Conv_floats T) T.cls_Convention T.p_Convention_floats hr (pv 0))) .nil))))) pa_nil)))
      (pss_cons (ps_expr (pe_bm PySem.F.plainAttrs_list PySem.F.slot_list_append PySem.F.type_list_append mt_append (pv 1) (pa_cons (pe_joined (.cons pe_str (.cons (pe_fmt (u_call (ok_yes_or_no T) T.g_yes_or_no hr (pa_cons (u_prop (ok_Convention_together T) T.cls_Convention T.p_Convention_together hr (pv 0)) pa_nil))) .nil))) pa_nil)))
      (pss_cons (ps_expr (pe_bm PySem.F.plainAttrs_list PySem.F.slot_list_append PySem.F.type_list_append mt_append (pv 1) (pa_cons (pe_joined (.cons pe_str (.cons (pe_fmt (u_prop (ok_Convention_doubles T) T.cls_Convention T.p_Convention_doubles hr (pv 0))) .nil))) pa_nil)))
      (pss_cons (ps_expr (pe_bm PySem.F.plainAttrs_list PySem.F.slot_list_append PySem.F.type_list_append mt_append (pv 1) (pa_cons (pe_joined (.cons pe_str (.cons (pe_fmt (u_call (ok_yes_or_no T) T.g_yes_or_no hr (pa_cons (u_prop (ok_Convention_again T) T.cls_Convention T.p_Convention_again hr (pv 0)) pa_nil))) .nil))) pa_nil)))
      (pss_cons (ps_expr (pe_bm PySem.F.plainAttrs_list PySem.F.slot_list_append PySem.F.type_list_append mt_append (pv 1) (pa_cons (pe_joined (.cons pe_str (.cons (pe_fmt (u_prop (ok_Convention_slot T) T.cls_Convention T.p_Convention_slot hr (pv 0))) .nil))) pa_nil)))
      (pss_cons (ps_expr (pe_bm PySem.F.plainAttrs_list PySem.F.slot_list_append PySem.F.type_list_append mt_append (pv 1) (pa_cons (pe_joined (.cons pe_str (.cons (pe_fmt (u_call (ok_yes_or_no T) T.g_yes_or_no hr (pa_cons (u_prop (ok_Convention_natural T) T.cls_Convention T.p_Convention_natural hr (pv 0)) pa_nil))) .nil))) pa_nil)))
      (pss_cons (ps_expr (pe_bm PySem.F.plainAttrs_list PySem.F.slot_list_append PySem.F.type_list_append mt_append (pv 1) (pa_cons (pe_joined (.cons pe_str (.cons (pe_fmt (u_prop (ok_Convention_home T) T.cls_Convention T.p_Convention_home hr (pv 0))) .nil))) pa_nil)))
      (pss_cons (ps_expr (pe_bm PySem.F.plainAttrs_list PySem.F.slot_list_append PySem.F.type_list_append mt_append (pv 1) (pa_cons (pe_joined (.cons pe_str (.cons (pe_fmt (u_prop (ok_Convention_tail T) T.cls_Convention T.p_Convention_tail hr (pv 0))) .nil))) pa_nil)))
      (pss_cons (ps_expr (pe_bm PySem.F.plainAttrs_list PySem.F.slot_list_extend PySem.F.type_list_extend mt_extend (pv 1) (pa_cons (u_call (ok_fill_lines T) T.g_fill_lines hr (pa_cons (pv 0) pa_nil)) pa_nil)))
      (pss_one (ps_ret (pe_bm PySem.F.plainAttrs_str PySem.F.slot_str_join PySem.F.type_str_join mt_join pe_str (pa_cons (pe_lc (own := [("line", 3)]) (g := gName 3) (tt := tYes) rfl sc_text_of.nd (pi_list (pv 1)) (blkOk_by (N := ["convention", "lines", "kind", "line"]) (sc := defScope s_text_of) (by decide +kernel))
        (fun _ _ _ _ _ => pg_name (i := 3) sc_text_of.nd rfl (Or.inl rfl)) (fun _ _ _ _ _ => pts_nil) (fun _ _ _ _ _ => pe_joined (.cons (pe_fmt (pv 3)) (.cons pe_str .nil)))) pa_nil))))))))))))))), ?_⟩
    obtain ⟨⟨dx, cp, fp, es, h1, h2, h3, h4⟩, hB, okc, fok⟩ := id hC
    obtain ⟨dxb, pb, qb, rb, rsb, hb1, _⟩ := hB.ex
    have few := hB.few
    have hs : ∀ z : Str, z.length ≤ 50 → z.length ≤ sizeLine := fun z h => by
      rw [sizeLine_eq]; omega
    have a1 := num_le okc.wholes.1 (by have := okc.wholes.2; omega)
    have a2 := num_le okc.floats.1 (by have := okc.floats.2; omega)
    have w3w : c.wholes ≤ 128 := by have := okc.wholes.2; omega
    have w3f : c.floats ≤ 128 := by have := okc.floats.2; omega
    have a3 := yesNo_le c.together
    have a4 := yesNo_le c.again
    have a5 := yesNo_le c.natural
    have a6 := doubles_le okc
    have a7 := tail_le okc
    have a8 := num_le (slot_le okc).1 (slot_le okc).2
    have a9 := num_le (home_le okc).1 (home_le okc).2
    have c0 : Str.empty.length = 0 := rfl
    have d1 : (Str.ofString "registers ").length = 10 := rfl
    have d2 : (Str.ofString " ").length = 1 := rfl
    have d3 : (Str.ofString "together ").length = 9 := rfl
    have d4 : (Str.ofString "doubles ").length = 8 := rfl
    have d5 : (Str.ofString "again ").length = 6 := rfl
    have d6 : (Str.ofString "slot ").length = 5 := rfl
    have d7 : (Str.ofString "natural ").length = 8 := rfl
    have d8 : (Str.ofString "home ").length = 5 := rfl
    have d9 : (Str.ofString "tail ").length = 5 := rfl
    have d10 : (Str.ofString "\n").length = 1 := rfl
    refine ⟨_, rfl, a, dx, _, rfl, h1, ?_⟩
    refine ⟨_, rfl, a, dx, _, rfl, h1, a, dx, _, _, rfl, h1, rfl, b, dxb, _, rfl, hb1, rfl, b, as, ks, rfl, hB, fun r hr1 => ⟨r, rfl, ⟨_, SqL.of upd_same⟩, fun D hD => ?_⟩⟩
    have lk : as.length = ks.length := hB.kinds.length
    have e1 : Ex H (upd H r (.lst (as.map V.ref))) := (Ex.refl H).more hr1
    refine lc_pure (walk_list (xs := as.map V.ref)) (ks.map fun k => V.str (kindLine k)) ?_ ?_ hD (fun u => SqL.of ?_) (fun i y z u H'' R R' hi hy hx rr => ?_) ?_
    · rw [List.length_map, List.length_map, lk]
    · rw [List.length_map]
      omega
    · rw [upd_ne (ne_of_none upd_same hD)]
      exact upd_same
    · obtain ⟨rfl, hx⟩ := hx
      obtain ⟨ka, hka, rfl⟩ : ∃ ka, as[i]? = some ka ∧ y = .ref ka := by
        rw [List.getElem?_map] at hx
        cases e : as[i]? with
        | none =>
          rw [e] at hx
          cases hx
        | some n =>
          rw [e] at hx
          exact ⟨n, rfl, (Option.some.inj hx).symm⟩
      obtain ⟨k, hk, dk, hkk⟩ := paired_get hB.kinds hka
      rw [List.getElem?_map, hk] at hy
      obtain rfl : V.str (kindLine k) = z := Option.some.inj hy
      exact ⟨rfl, _, rfl, ka, k, rfl, ⟨dk, ((e1.more hD) _ _ hkk)⟩, hB.ok k (List.mem_of_getElem? hk), rr⟩
    · have hDn : H D = none := e1.none hD
      have ec : Ex H (upd (upd H r (.lst (as.map V.ref))) D (.lst (ks.map fun k => V.str (kindLine k)))) := e1.put hDn
      have hl := upd_same (H := upd H r (.lst (as.map V.ref))) (a := D) (o := .lst (ks.map fun k => V.str (kindLine k)))
      generalize upd (upd H r (.lst (as.map V.ref))) D (.lst (ks.map fun k => V.str (kindLine k))) = Hc at ec hl ⊢
      have ln : (ks.map fun k => V.str (kindLine k)).length ≤ 5 := by rw [List.length_map]; exact few
      have app : ∀ {n : Nat} {ys : List V} {y : V}, ys.length ≤ n → (ys ++ [y]).length ≤ n + 1 := fun h => by
        rw [List.length_append]
        show _ + 1 ≤ _
        omega
      have lt : ∀ {n : Nat} {ys : List V}, ys.length ≤ n → n ≤ 100 → ys.length < sizeLine := fun h h2 => by
        rw [sizeLine_eq]
        omega
      refine ⟨_, rfl, .inl ⟨rfl, _, SqL.of hl⟩, _, rfl, hs _ (by simp only [str_len, c0, d1, d2, d3, d4, d5, d6, d7, d8, d9, d10]; omega), _, rfl, a, dx, _, rfl, ec _ _ h1, a, b, as, ks, c, rfl, hC.ex_mono ec, .inr ⟨_, rfl, log_le okc.wholes.1 w3w, _, rfl, hs _ (by unfold numS at *; simp only [str_len, c0, d1, d2, d3, d4, d5, d6, d7, d8, d9, d10]; omega), _, rfl, hs _ (by unfold numS at *; simp only [str_len, c0, d1, d2, d3, d4, d5, d6, d7, d8, d9, d10]; omega), _, rfl, a, dx, _, rfl, ec _ _ h1, a, b, as, ks, c, rfl, hC.ex_mono ec, .inr ⟨_, rfl, log_le okc.floats.1 w3f, _, rfl, hs _ (by unfold numS at *; simp only [str_len, c0, d1, d2, d3, d4, d5, d6, d7, d8, d9, d10]; omega), D, _, _, rfl, rfl, hl, lt ln (by decide), ?_⟩⟩⟩
      generalize hH : upd Hc D _ = Hc1
      replace ec : Ex H Hc1 := by rw [← hH]; exact ec.put hDn
      replace hl : Hc1 D = some (.lst ((ks.map fun k => V.str (kindLine k)) ++ [V.str (regLine c)])) := by rw [← hH]; exact upd_same
      clear hH
      replace ln := app (y := V.str (regLine c)) ln
      refine ⟨_, rfl, .inl ⟨rfl, _, SqL.of hl⟩, _, rfl, hs _ (by simp only [str_len, c0, d1, d2, d3, d4, d5, d6, d7, d8, d9, d10]; omega), _, rfl, a, dx, _, rfl, ec _ _ h1, a, dx, _, _, rfl, ec _ _ h1, rfl, _, rfl, .inl ⟨_, rfl, hs _ (by omega), _, rfl, hs _ (by simp only [str_len, c0, d1, d2, d3, d4, d5, d6, d7, d8, d9, d10]; omega), D, _, _, rfl, rfl, hl, lt ln (by decide), ?_⟩⟩
      generalize hH : upd Hc1 D _ = Hc2
      replace ec : Ex H Hc2 := by rw [← hH]; exact ec.put hDn
      replace hl : Hc2 D = some (.lst (((ks.map fun k => V.str (kindLine k)) ++ [V.str (regLine c)]) ++ [V.str ((Str.empty ++ Str.ofString "together ") ++ yesNo c.together)])) := by rw [← hH]; exact upd_same
      clear hH
      replace ln := app (y := V.str ((Str.empty ++ Str.ofString "together ") ++ yesNo c.together)) ln
      refine ⟨_, rfl, .inl ⟨rfl, _, SqL.of hl⟩, _, rfl, hs _ (by simp only [str_len, c0, d1, d2, d3, d4, d5, d6, d7, d8, d9, d10]; omega), _, rfl, a, dx, _, rfl, ec _ _ h1, a, dx, _, _, rfl, ec _ _ h1, rfl, .inl ⟨_, rfl, hs _ (by omega), _, rfl, hs _ (by simp only [str_len, c0, d1, d2, d3, d4, d5, d6, d7, d8, d9, d10]; omega), D, _, _, rfl, rfl, hl, lt ln (by decide), ?_⟩⟩
      generalize hH : upd Hc2 D _ = Hc3
      replace ec : Ex H Hc3 := by rw [← hH]; exact ec.put hDn
      replace hl : Hc3 D = some (.lst ((((ks.map fun k => V.str (kindLine k)) ++ [V.str (regLine c)]) ++ [V.str ((Str.empty ++ Str.ofString "together ") ++ yesNo c.together)]) ++ [V.str ((Str.empty ++ Str.ofString "doubles ") ++ c.doubles)])) := by rw [← hH]; exact upd_same
      clear hH
      replace ln := app (y := V.str ((Str.empty ++ Str.ofString "doubles ") ++ c.doubles)) ln
      refine ⟨_, rfl, .inl ⟨rfl, _, SqL.of hl⟩, _, rfl, hs _ (by simp only [str_len, c0, d1, d2, d3, d4, d5, d6, d7, d8, d9, d10]; omega), _, rfl, a, dx, _, rfl, ec _ _ h1, a, dx, _, _, rfl, ec _ _ h1, rfl, _, rfl, .inl ⟨_, rfl, hs _ (by omega), _, rfl, hs _ (by simp only [str_len, c0, d1, d2, d3, d4, d5, d6, d7, d8, d9, d10]; omega), D, _, _, rfl, rfl, hl, lt ln (by decide), ?_⟩⟩
      generalize hH : upd Hc3 D _ = Hc4
      replace ec : Ex H Hc4 := by rw [← hH]; exact ec.put hDn
      replace hl : Hc4 D = some (.lst (((((ks.map fun k => V.str (kindLine k)) ++ [V.str (regLine c)]) ++ [V.str ((Str.empty ++ Str.ofString "together ") ++ yesNo c.together)]) ++ [V.str ((Str.empty ++ Str.ofString "doubles ") ++ c.doubles)]) ++ [V.str ((Str.empty ++ Str.ofString "again ") ++ yesNo c.again)])) := by rw [← hH]; exact upd_same
      clear hH
      replace ln := app (y := V.str ((Str.empty ++ Str.ofString "again ") ++ yesNo c.again)) ln
      refine ⟨_, rfl, .inl ⟨rfl, _, SqL.of hl⟩, _, rfl, hs _ (by simp only [str_len, c0, d1, d2, d3, d4, d5, d6, d7, d8, d9, d10]; omega), _, rfl, a, dx, _, rfl, ec _ _ h1, a, dx, _, _, rfl, ec _ _ h1, rfl, .inr ⟨_, rfl, log_le (slot_le okc).1 (slot_le okc).2, _, rfl, hs _ (by unfold numS at *; simp only [str_len, c0, d1, d2, d3, d4, d5, d6, d7, d8, d9, d10]; omega), D, _, _, rfl, rfl, hl, lt ln (by decide), ?_⟩⟩
      generalize hH : upd Hc4 D _ = Hc5
      replace ec : Ex H Hc5 := by rw [← hH]; exact ec.put hDn
      replace hl : Hc5 D = some (.lst ((((((ks.map fun k => V.str (kindLine k)) ++ [V.str (regLine c)]) ++ [V.str ((Str.empty ++ Str.ofString "together ") ++ yesNo c.together)]) ++ [V.str ((Str.empty ++ Str.ofString "doubles ") ++ c.doubles)]) ++ [V.str ((Str.empty ++ Str.ofString "again ") ++ yesNo c.again)]) ++ [V.str ((Str.empty ++ Str.ofString "slot ") ++ numS c.slot)])) := by rw [← hH]; exact upd_same
      clear hH
      replace ln := app (y := V.str ((Str.empty ++ Str.ofString "slot ") ++ numS c.slot)) ln
      refine ⟨_, rfl, .inl ⟨rfl, _, SqL.of hl⟩, _, rfl, hs _ (by simp only [str_len, c0, d1, d2, d3, d4, d5, d6, d7, d8, d9, d10]; omega), _, rfl, a, dx, _, rfl, ec _ _ h1, a, dx, _, _, rfl, ec _ _ h1, rfl, _, rfl, .inl ⟨_, rfl, hs _ (by omega), _, rfl, hs _ (by simp only [str_len, c0, d1, d2, d3, d4, d5, d6, d7, d8, d9, d10]; omega), D, _, _, rfl, rfl, hl, lt ln (by decide), ?_⟩⟩
      generalize hH : upd Hc5 D _ = Hc6
      replace ec : Ex H Hc6 := by rw [← hH]; exact ec.put hDn
      replace hl : Hc6 D = some (.lst (((((((ks.map fun k => V.str (kindLine k)) ++ [V.str (regLine c)]) ++ [V.str ((Str.empty ++ Str.ofString "together ") ++ yesNo c.together)]) ++ [V.str ((Str.empty ++ Str.ofString "doubles ") ++ c.doubles)]) ++ [V.str ((Str.empty ++ Str.ofString "again ") ++ yesNo c.again)]) ++ [V.str ((Str.empty ++ Str.ofString "slot ") ++ numS c.slot)]) ++ [V.str ((Str.empty ++ Str.ofString "natural ") ++ yesNo c.natural)])) := by rw [← hH]; exact upd_same
      clear hH
      replace ln := app (y := V.str ((Str.empty ++ Str.ofString "natural ") ++ yesNo c.natural)) ln
      refine ⟨_, rfl, .inl ⟨rfl, _, SqL.of hl⟩, _, rfl, hs _ (by simp only [str_len, c0, d1, d2, d3, d4, d5, d6, d7, d8, d9, d10]; omega), _, rfl, a, dx, _, rfl, ec _ _ h1, a, dx, _, _, rfl, ec _ _ h1, rfl, .inr ⟨_, rfl, log_le (home_le okc).1 (home_le okc).2, _, rfl, hs _ (by unfold numS at *; simp only [str_len, c0, d1, d2, d3, d4, d5, d6, d7, d8, d9, d10]; omega), D, _, _, rfl, rfl, hl, lt ln (by decide), ?_⟩⟩
      generalize hH : upd Hc6 D _ = Hc7
      replace ec : Ex H Hc7 := by rw [← hH]; exact ec.put hDn
      replace hl : Hc7 D = some (.lst ((((((((ks.map fun k => V.str (kindLine k)) ++ [V.str (regLine c)]) ++ [V.str ((Str.empty ++ Str.ofString "together ") ++ yesNo c.together)]) ++ [V.str ((Str.empty ++ Str.ofString "doubles ") ++ c.doubles)]) ++ [V.str ((Str.empty ++ Str.ofString "again ") ++ yesNo c.again)]) ++ [V.str ((Str.empty ++ Str.ofString "slot ") ++ numS c.slot)]) ++ [V.str ((Str.empty ++ Str.ofString "natural ") ++ yesNo c.natural)]) ++ [V.str ((Str.empty ++ Str.ofString "home ") ++ numS c.home)])) := by rw [← hH]; exact upd_same
      clear hH
      replace ln := app (y := V.str ((Str.empty ++ Str.ofString "home ") ++ numS c.home)) ln
      refine ⟨_, rfl, .inl ⟨rfl, _, SqL.of hl⟩, _, rfl, hs _ (by simp only [str_len, c0, d1, d2, d3, d4, d5, d6, d7, d8, d9, d10]; omega), _, rfl, a, dx, _, rfl, ec _ _ h1, a, dx, _, _, rfl, ec _ _ h1, rfl, .inl ⟨_, rfl, hs _ (by omega), _, rfl, hs _ (by simp only [str_len, c0, d1, d2, d3, d4, d5, d6, d7, d8, d9, d10]; omega), D, _, _, rfl, rfl, hl, lt ln (by decide), ?_⟩⟩
      generalize hH : upd Hc7 D _ = Hc8
      replace ec : Ex H Hc8 := by rw [← hH]; exact ec.put hDn
      replace hl : Hc8 D = some (.lst (((((((((ks.map fun k => V.str (kindLine k)) ++ [V.str (regLine c)]) ++ [V.str ((Str.empty ++ Str.ofString "together ") ++ yesNo c.together)]) ++ [V.str ((Str.empty ++ Str.ofString "doubles ") ++ c.doubles)]) ++ [V.str ((Str.empty ++ Str.ofString "again ") ++ yesNo c.again)]) ++ [V.str ((Str.empty ++ Str.ofString "slot ") ++ numS c.slot)]) ++ [V.str ((Str.empty ++ Str.ofString "natural ") ++ yesNo c.natural)]) ++ [V.str ((Str.empty ++ Str.ofString "home ") ++ numS c.home)]) ++ [V.str ((Str.empty ++ Str.ofString "tail ") ++ c.tail)])) := by rw [← hH]; exact upd_same
      clear hH
      replace ln := app (y := V.str ((Str.empty ++ Str.ofString "tail ") ++ c.tail)) ln
      have el : (((((((((ks.map fun k => V.str (kindLine k)) ++ [V.str (regLine c)]) ++ [V.str ((Str.empty ++ Str.ofString "together ") ++ yesNo c.together)]) ++ [V.str ((Str.empty ++ Str.ofString "doubles ") ++ c.doubles)]) ++ [V.str ((Str.empty ++ Str.ofString "again ") ++ yesNo c.again)]) ++ [V.str ((Str.empty ++ Str.ofString "slot ") ++ numS c.slot)]) ++ [V.str ((Str.empty ++ Str.ofString "natural ") ++ yesNo c.natural)]) ++ [V.str ((Str.empty ++ Str.ofString "home ") ++ numS c.home)]) ++ [V.str ((Str.empty ++ Str.ofString "tail ") ++ c.tail)]) = (ks.map kindLine ++ optLines c).map V.str := by
        rw [List.map_append, List.map_map]
        unfold optLines
        simp only [List.append_assoc, List.cons_append, List.nil_append, List.map_cons, List.map_nil]
        rfl
      rw [el] at hl ln
      refine ⟨_, rfl, .inl ⟨rfl, _, SqL.of hl⟩, _, rfl, a, b, as, ks, c, rfl, hC.ex_mono ec, fun H2 p e2 np hp => ?_⟩
      have hl2 := e2 _ _ hl
      have z := fillLines_len c.fill (ks.map (·.name))
      rw [List.length_map] at z
      refine ⟨D, p, _, _, rfl, rfl, hl2, hp, ?_, ?_⟩
      · rw [sizeLine_eq, List.length_map (as := fillLines _ _)]
        omega
      · have ep : Ex H H2 := ec.trans e2
        have e3 : Ex H (upd H2 D (.lst ((ks.map kindLine ++ optLines c).map V.str ++ (fillLines c.fill (ks.map (·.name))).map V.str))) := ep.put hDn
        have h3 := upd_same (H := H2) (a := D) (o := .lst ((ks.map kindLine ++ optLines c).map V.str ++ (fillLines c.fill (ks.map (·.name))).map V.str))
        rw [← List.map_append, List.append_assoc, show ks.map kindLine ++ (optLines c ++ fillLines c.fill (ks.map (·.name))) = textLines ks c from rfl] at e3 h3 ⊢
        generalize upd H2 D (.lst ((textLines ks c).map V.str)) = H3 at e3 h3 ⊢
        have tl := textLines_le hB.ok okc fok
        have tf := textLines_few (c := c) few
        refine ⟨rfl, _, rfl, D, rfl, ⟨_, SqL.of h3⟩, fun D2 hD2 => ?_⟩
        refine lc_pure (te := fun σ H Q => tJs [tFmt (tVar 3), tC (.str (Str.ofString "\n"))] Str.empty σ H fun out H1 => Q (.str out) H1) (walk_list (xs := (textLines ks c).map V.str)) ((textLines ks c).map fun l => V.str (lineLf l)) ?_ ?_ hD2 (fun u => SqL.of ?_) (fun i y z u H'' R R' hi hy hx rr => ?_) ?_
        · rw [List.length_map, List.length_map]
        · rw [List.length_map]
          omega
        · rw [upd_ne (ne_of_none h3 hD2)]
          exact h3
        · obtain ⟨rfl, hx⟩ := hx
          rw [List.getElem?_map] at hx hy
          cases e : (textLines ks c)[i]? with
          | none =>
            rw [e] at hx
            cases hx
          | some l =>
            rw [e] at hx hy
            obtain rfl : V.str l = y := Option.some.inj hx
            obtain rfl : V.str (lineLf l) = z := Option.some.inj hy
            have hll := tl l (List.mem_of_getElem? e)
            exact ⟨rfl, _, rfl, .inl ⟨_, rfl, hs _ (by omega), _, rfl, hs _ (by simp only [str_len, c0]; omega), _, rfl, hs _ (by simp only [str_len, c0, d10]; omega), rr⟩⟩
        · refine ⟨Str.empty, D2, (textLines ks c).map lineLf, rfl, rfl, .inl (SqL.of ?_), ?_, q _ (e3.more hD2)⟩
          · rw [upd_same, List.map_map]
            rfl
          · have z1 := sum_le (n := 41) (((textLines ks c).map lineLf).map (·.length)) (fun x hx => by
              obtain ⟨l2, hl3, rfl⟩ := List.mem_map.mp hx
              obtain ⟨l3, hl4, rfl⟩ := List.mem_map.mp hl3
              have := tl l3 hl4
              unfold lineLf
              simp only [str_len, c0, d10]
              omega)
            rw [List.length_map, List.length_map] at z1
            rw [c0, Nat.mul_zero]
            omega
theorem ok_text_of (T : Tx W) : Fn W CX0 4 (ga W.K "text_of") ["convention"] (sp_text_of W.K) := by
  obtain ⟨fd, F1, F2, _⟩ := ok_text_of_kw T
  obtain ⟨_, F⟩ := T.d_text_of
  exact ⟨⟨fd, F1, F2⟩, F.kp⟩
end
end U
/-! ## texts.py: Reading -/
namespace U
open PySem PySem.Spec PyProof.Rows L2 StX
section
variable {W : Wd}
structure RdD where
  ks : List KindD
  m : Nat
  c : ConvD
  fl : List (Str × FillD)
  last : Int
def RdD.names (d : RdD) : List Str := d.ks.map (·.name)
abbrev optNs : List Str := ["wholes", "floats", "together", "doubles", "again", "slot", "natural", "home", "tail"]
def vals9 (c : ConvD) : List V := [.int c.wholes, .int c.floats, .bl c.together, .str c.doubles, .bl c.again, .int c.slot, .bl c.natural, .int c.home, .str c.tail]
def optK (m : Nat) (c : ConvD) : List (Key × V) := ((optNs.map Sum.inr).zip (vals9 c)).take m
theorem optK_len {m : Nat} (c : ConvD) (h : m ≤ 9) : (optK m c).length = m := by
  unfold optK
  rw [List.length_take, List.length_zip]
  show min m 9 = m
  omega
def rdF (p n o f : Addr) (i : Int) : List (Str × V) := [("own_parts", .ref p), ("own_names", .ref n), ("own_options", .ref o), ("own_promises", .ref f), ("own_last", .int i)]
def idxI (ns : List Str) (n : Str) : Int := ((ns.idxOf n : Nat) : Int)
structure RdOk (d : RdD) : Prop where
  few : d.ks.length ≤ 5
  nd : d.names.Nodup
  kok : ∀ k ∈ d.ks, k.ok = true
  m9 : d.m = 0 ∨ (2 ≤ d.m ∧ d.m ≤ 9)
  some_ : d.m ≠ 0 → d.ks ≠ []
  cok : d.c.Ok
  lo : -1 ≤ d.last
  hi : d.last < d.ks.length
  fln : (d.fl.length : Int) ≤ d.last + 1
  flm : ∀ e ∈ d.fl, e.1 ∈ d.names ∧ e.2.Ok ∧ idxI d.names e.1 ≤ d.last
  fl0 : d.m ≠ 9 → d.fl = [] ∧ d.last = -1
structure RdAt (K : Fg) (B H : Hp) (a : Addr) (d : RdD) : Prop where
  ex : ∃ (dx p n o f : Addr) (as : List Addr) (es : List Ent), H a = some (.ins (ga K "Reading") dx (rdF p n o f d.last)) ∧ H p = some (.lst (as.map V.ref)) ∧ H n = some (.lst (d.names.map V.str)) ∧ H o = some (.dK (optK d.m d.c)) ∧ H f = some (.dK (entK es)) ∧
    (B a = none ∧ B p = none ∧ B n = none ∧ B o = none ∧ B f = none) ∧ (p ≠ n ∧ o ≠ f) ∧ Paired (KindAt K H) as d.ks ∧ (∀ e ∈ es, FillAt K H e.2.1 e.2.2) ∧ es.map (fun e => (e.1, e.2.2)) = d.fl
  bh : Ex B H
  ok : RdOk d
theorem RdAt.base {K : Fg} {B H : Hp} {a : Addr} {d : RdD} (x : RdAt K B H a d) {q : Addr} {u : HO} (hq : H q = none) : RdAt K (upd B q u) (upd H q u) a d := by
  obtain ⟨⟨dx, p, n, o, f, as, es, h1, h2, h3, h4, h5, ⟨b1, b2, b3, b4, b5⟩, hd, hk, hf, he⟩, bh, ok⟩ := x
  have e : Ex H (upd H q u) := (Ex.refl H).more hq
  have nb : ∀ {w : Addr} {v : HO}, H w = some v → B w = none → upd B q u w = none := fun {w v} h b => by
    rw [upd_ne (ne_of_none h hq)]
    exact b
  exact ⟨⟨dx, p, n, o, f, as, es, e _ _ h1, e _ _ h2, e _ _ h3, e _ _ h4, e _ _ h5, ⟨nb h1 b1, nb h2 b2, nb h3 b3, nb h4 b4, nb h5 b5⟩, hd, paired_mono (fun _ _ ⟨dk, h⟩ => ⟨dk, e _ _ h⟩) hk, fun e' he' => let ⟨df, h⟩ := hf e' he'; ⟨df, e _ _ h⟩, he⟩, bh.both, ok⟩
theorem RdAt.weak {K : Fg} {B B' H : Hp} {a : Addr} {d : RdD} (x : RdAt K B' H a d) (e : Ex B B') : RdAt K B H a d := by
  obtain ⟨⟨dx, p, n, o, f, as, es, h1, h2, h3, h4, h5, ⟨b1, b2, b3, b4, b5⟩, r⟩, bh, ok⟩ := x
  exact ⟨⟨dx, p, n, o, f, as, es, h1, h2, h3, h4, h5, ⟨e.none b1, e.none b2, e.none b3, e.none b4, e.none b5⟩, r⟩, e.trans bh, ok⟩
/-- more is laid beside -/
theorem RdAt.more {K : Fg} {B H H' : Hp} {a : Addr} {d : RdD} (x : RdAt K B H a d) (e : Ex H H') : RdAt K B H' a d := by
  obtain ⟨⟨dx, p, n, o, f, as, es, h1, h2, h3, h4, h5, b, hd, hk, hf, he⟩, bh, ok⟩ := x
  exact ⟨⟨dx, p, n, o, f, as, es, e _ _ h1, e _ _ h2, e _ _ h3, e _ _ h4, e _ _ h5, b, hd, paired_mono (fun _ _ ⟨dk, h⟩ => ⟨dk, e _ _ h⟩) hk, fun e' he' => let ⟨df, h⟩ := hf e' he'; ⟨df, e _ _ h⟩, he⟩, bh.trans e, ok⟩
theorem nfR (T : Tx W) : ∀ {g : Str}, g ∈ (["own_parts", "own_names", "own_options", "own_promises", "own_last"] : List Str) → NoAttr W.K (ga W.K "Reading") g := fun h => T.na_Reading h
def conv0 : ConvD := ⟨0, 0, false, Str.ofString "whole", false, 8, true, 0, Str.ofString "same", fun _ => ⟨FREE, .non⟩⟩
def rd0 : RdD := ⟨[], 0, conv0, [], -1⟩
theorem rd0_ok : RdOk rd0 where
  few := by decide
  nd := List.nodup_nil
  kok := fun k h => absurd h (List.not_mem_nil)
  m9 := .inl rfl
  some_ := fun h => absurd rfl h
  cok := ⟨by decide, by decide, .inl rfl, .inr rfl, .inl rfl, .inl rfl⟩
  lo := by decide
  hi := by decide
  fln := by decide
  flm := fun e h => absurd h (List.not_mem_nil)
  fl0 := fun _ => ⟨rfl, rfl⟩
/-! ### __init__ -/
theorem sc_Rd_init : FnScope ["self"] ["self"] (defScope s_Reading___init__) := ⟨rfl, rfl, rfl, by decide +kernel, rfl, by decide +kernel, by decide +kernel⟩
def sp_Rd_init (K : Fg) : Sp := fun vs H Q _ => ∃ (x dx : Addr) (B : Hp), vs = [.ref x] ∧ H x = some (.ins (ga K "Reading") dx []) ∧ B x = none ∧ Ex B H ∧ ∀ H', RdAt K B H' x rd0 → Q .non H'
theorem ok_Rd_init (T : Tx W) : Fn W CX0 1 (ca "Reading" "__init__" W.K) ["self"] (sp_Rd_init W.K) := by
  obtain ⟨fd, F⟩ := T.d_Reading___init__
  refine ⟨⟨fd, ?_, F.bindsN fun _ _ _ _ _ _ us hl => match us, hl with | [_], _ => rfl⟩, F.kp⟩
  refine F.ok sc_Rd_init (fun vs H Q E h => ?_) (fun cdv A outer s H vs Q E hr h => ?_)
  · obtain ⟨x, dx, B, rfl, _⟩ := h
    rfl
  · obtain ⟨x, dx, B, rfl, hx, bx, bh, q⟩ := h
    refine ⟨_, PSs.nox (pss_cons (ps_fld (pv 0) (pe_lst pa_nil) rfl) (pss_cons (ps_fld (pv 0) (pe_lst pa_nil) rfl) (pss_cons (ps_fld (pv 0) pe_dnewK rfl) (pss_cons (ps_fld (pv 0) pe_dnewK rfl) (pss_one (ps_fld (pv 0) (pe_un un_neg pe_int) rfl)))))), ?_⟩
    refine ⟨by show 0 ≤ sizeLine; decide, fun p hp => ?_⟩
    have xp : x ≠ p := ne_of_none hx hp
    refine ⟨_, rfl, x, _, dx, _, rfl, (upd_ne xp).trans hx, T.cls_Reading, nfR T (by decide), by decide, ?_⟩
    refine ⟨by show 0 ≤ sizeLine; decide, fun n hn => ?_⟩
    have xn : x ≠ n := ne_of_none upd_same hn
    have pn : p ≠ n := ne_of_none ((upd_ne xp.symm).trans upd_same) hn
    refine ⟨_, rfl, x, _, dx, _, rfl, (upd_ne xn).trans upd_same, T.cls_Reading, nfR T (by decide), of_decide_eq_true (by kernel_rfl), fun o ho => ?_⟩
    have xo : x ≠ o := ne_of_none upd_same ho
    have no : n ≠ o := ne_of_none ((upd_ne xn.symm).trans upd_same) ho
    have po : p ≠ o := ne_of_none ((upd_ne xp.symm).trans ((upd_ne pn).trans ((upd_ne xp.symm).trans upd_same))) ho
    refine ⟨_, rfl, x, _, dx, _, rfl, (upd_ne xo).trans upd_same, T.cls_Reading, nfR T (by decide), of_decide_eq_true (by kernel_rfl), fun f hf => ?_⟩
    have xf : x ≠ f := ne_of_none upd_same hf
    have of_ : o ≠ f := ne_of_none ((upd_ne xo.symm).trans upd_same) hf
    have nf : n ≠ f := ne_of_none ((upd_ne xn.symm).trans ((upd_ne no).trans ((upd_ne xn.symm).trans upd_same))) hf
    have pf : p ≠ f := ne_of_none ((upd_ne xp.symm).trans ((upd_ne po).trans ((upd_ne xp.symm).trans ((upd_ne pn).trans ((upd_ne xp.symm).trans upd_same))))) hf
    refine ⟨_, rfl, x, _, dx, _, rfl, (upd_ne xf).trans upd_same, T.cls_Reading, nfR T (by decide), of_decide_eq_true (by kernel_rfl), ?_⟩
    refine ⟨_, rfl, _, rfl, x, _, dx, _, rfl, upd_same, T.cls_Reading, nfR T (by decide), of_decide_eq_true (by kernel_rfl), ?_⟩
    rw [upd_upd]
    have bn : ∀ {u : Addr} {v : HO} {Hn : Hp}, (∀ w o, B w = some o → Hn w = some o) → Hn u = none → B u = none := fun {u v Hn} e h => Ex.none e h
    have e1 : Ex B (upd H p (.lst [])) := bh.more hp
    have e2 := (e1.put (u := .ins (ga W.K "Reading") dx (putF "own_parts" (.ref p) [])) bx).more (o := .lst []) hn
    have e3 := (e2.put (u := .ins (ga W.K "Reading") dx (putF "own_names" (.ref n) (putF "own_parts" (.ref p) []))) bx).more (o := .dK []) ho
    have e4 := (e3.put (u := .ins (ga W.K "Reading") dx (putF "own_options" (.ref o) (putF "own_names" (.ref n) (putF "own_parts" (.ref p) [])))) bx).more (o := .dK []) hf
    refine q _ ⟨⟨dx, p, n, o, f, [], [], ?_, ?_, ?_, ?_, ?_, ⟨bx, bh.none hp, ?_, ?_, ?_⟩, ⟨pn, of_⟩, .nil, fun e h => (by cases h), rfl⟩, e4.put bx, rd0_ok⟩
    · rw [upd_same]
      exact congrArg some (by kernel_rfl)
    · rw [upd_ne xp.symm, upd_ne pf, upd_ne xp.symm, upd_ne po, upd_ne xp.symm, upd_ne pn, upd_ne xp.symm, upd_same]
      rfl
    · rw [upd_ne xn.symm, upd_ne nf, upd_ne xn.symm, upd_ne no, upd_ne xn.symm, upd_same]
      rfl
    · rw [upd_ne xo.symm, upd_ne of_, upd_ne xo.symm, upd_same]
      rfl
    · rw [upd_ne xf.symm, upd_same]
      rfl
    · exact Ex.none (e1.put bx) hn
    · exact Ex.none (e2.put bx) ho
    · exact Ex.none (e3.put bx) hf
/-! ### is_done -/
theorem cho_len {K : Fg} {ps : List Addr} (h : Paired (RowT K) ps choices) : (ps.map V.ref).length = 7 := by
  rw [List.length_map, h.length]
  rfl
theorem sc_Rd_done : FnScope ["self"] ["self"] (defScope s_Reading_is_done) := ⟨rfl, rfl, rfl, by decide +kernel, rfl, by decide +kernel, by decide +kernel⟩
def sp_Rd_done (K : Fg) : Sp := fun vs H Q _ => ∃ (a : Addr) (B : Hp) (d : RdD), vs = [.ref a] ∧ RdAt K B H a d ∧ Q (.bl (decide (d.m = 9))) H
theorem m9_le {d : RdD} (h : RdOk d) : d.m ≤ 9 := by
  rcases h.m9 with h | h <;> omega
theorem ok_Rd_done (T : Tx W) : Fn W CX0 1 (ca "Reading" "is_done" W.K) ["self"] (sp_Rd_done W.K) := by
  obtain ⟨fd, F⟩ := T.d_Reading_is_done
  obtain ⟨cps, ct, cp⟩ := T.t_CHOICES
  refine ⟨⟨fd, ?_, F.bindsN fun _ _ _ _ _ _ us hl => match us, hl with | [_], _ => rfl⟩, F.kp⟩
  refine F.ok sc_Rd_done (fun vs H Q E h => ?_) (fun cdv A outer s H vs Q E hr h => ?_)
  · obtain ⟨a, B, d, rfl, _⟩ := h
    rfl
  · obtain ⟨a, B, d, rfl, ⟨⟨dx, p, n, o, f, as, es, h1, h2, h3, h4, h5, _⟩, bh, ok⟩, q⟩ := h
    refine ⟨_, PSs.nox (pss_one (ps_ret (pe_cmpR op_eq (pe_callB call_lenD (by rfl) T.f_len (by decide +kernel) (pa_cons (pe_fld (pv 0) rfl) pa_nil)) (pe_op op_add pe_int (pe_callB call_len_seq (by rfl) T.f_len (by decide +kernel) (pa_cons (pe_glob (v := .ref (ga W.K "CHOICES")) (by rfl) T.g_CHOICES rfl) pa_nil))) (nomark _)))), ?_⟩
    refine ⟨_, rfl, a, _, dx, _, _, rfl, h1, T.cls_Reading, nfR T (by decide), rfl, o, _, rfl, h4, _, _, rfl, .inr (ct H), _, _, rfl, rfl, rfl, ?_⟩
    rw [cho_len cp, optK_len _ (m9_le ok), eI]
    have e : decide ((d.m : Int) = 2 + ((7 : Nat) : Int)) = decide (d.m = 9) := by
      rw [Bool.eq_iff_iff, decide_eq_true_iff, decide_eq_true_iff]
      omega
    rw [e]
    exact q
end
end U
/-! ## texts.py: Reading.take_kind, take_registers -/
namespace U
open PySem PySem.Spec PyProof.Rows L2 StX
section
variable {W : Wd}
def RdD.addKind (d : RdD) (k : KindD) : RdD := { d with ks := d.ks ++ [k] }
def tkKind (ws : List Str) (d : RdD) : Option RdD := match kindIn ws with
  | none => none
  | some k => if k.name ∈ d.names ∨ d.ks.length = 5 then none else some (d.addKind k)
theorem kindIn_ok {ws : List Str} {k : KindD} (h : kindIn ws = some k) : k.ok = true := by
  unfold kindIn at h
  split at h
  · rename_i a b c d e f
    by_cases h1 : a = Str.ofString "kind" ∧ isName b = true ∧ isGroup c = true ∧ isSize (numIn d) = true
    · rw [if_pos h1] at h
      split at h
      · rename_i s w l es ew el
        by_cases h2 : isWidth (.int w) s = true ∧ isSize (.int l) = true
        · rw [if_pos h2] at h
          cases h
          rw [es] at h1
          show (isName b && (isGroup c && (isSize (.int s) && (isWidth (.int w) s && isSize (.int l))))) = true
          rw [h1.2.1, h1.2.2.1, h1.2.2.2, h2.1, h2.2]
          rfl
        · rw [if_neg h2] at h
          cases h
      · cases h
    · rw [if_neg h1] at h
      cases h
  · cases h
/-- what a method of the reading promises: st, what it does to what was told -/
def spTk (K : Fg) (pre : RdD → Prop) (st : List Str → RdD → Option RdD) : Sp := fun vs H Q _ => ∃ (a p : Addr) (B : Hp) (d : RdD) (ws : List Str), vs = [.ref a, .ref p] ∧ RdAt K B H a d ∧ B p = some (.lst (ws.map V.str)) ∧ (∀ w ∈ ws, w.length ≤ 16777216 ∧ PyData.strOk w = true) ∧ ws ≠ [] ∧ pre d ∧
  (∀ H', st ws d = none → Ex B H' → Q (.bl false) H') ∧ ∀ H' d', st ws d = some d' → RdAt K B H' a d' → Q (.bl true) H'
theorem sc_Rd_kind : FnScope ["self", "words", "kind"] ["self", "words"] (defScope s_Reading_take_kind) := ⟨rfl, rfl, rfl, by decide +kernel, rfl, by decide +kernel, by decide +kernel⟩
theorem names_add (d : RdD) (k : KindD) : (d.addKind k).names = d.names ++ [k.name] := by
  unfold RdD.names RdD.addKind
  rw [List.map_append]
  rfl
theorem ok_Rd_kind (T : Tx W) : Fn W CX0 6 (ca "Reading" "take_kind" W.K) ["self", "words"] (spTk W.K (fun d => d.m = 0) tkKind) := by
  obtain ⟨fd, F⟩ := T.d_Reading_take_kind
  obtain ⟨rdB, uB, cvB⟩ := T.cv_Book_MOST_KINDS
  refine ⟨⟨fd, ?_, F.bindsN fun _ _ _ _ _ _ us hl => match us, hl with | [_, _], _ => rfl⟩, F.kp⟩
  refine F.ok sc_Rd_kind (fun vs H Q E h => ?_) (fun cdv A outer s H vs Q E hr h => ?_)
  · obtain ⟨a, p, B, d, ws, rfl, _⟩ := h
    rfl
  · obtain ⟨a, q, B, d, ws, rfl, hR, hq, hw, _, m0, kN, kS⟩ := h
    refine ⟨_, PSs.nox (pss_cons (ps_set (i := 2) sc_Rd_kind.nd rfl (Or.inl rfl) (u_call (ok_kind_in T) T.g_kind_in hr (pa_cons (pv 1) pa_nil)))
      (pss_cons (ps_if (PW.pt (pw_or (pt_cmpR op_isN (pv 2) pe_non (nomark _)) (pw_or (pt_cmpR op_in_seq (u_prop (ok_Kind_name T) T.cls_Kind T.p_Kind_name hr (pv 2)) (pe_fld (pv 0) rfl) rfl)
          (pw_or1 (pt_cmpR op_eq (pe_callB call_len_seq (by rfl) T.f_len (by decide +kernel) (pa_cons (pe_fld (pv 0) rfl) pa_nil)) (ClX.pe_cval (pe_glob (v := .ref (ga W.K "Book")) (by rfl) T.g_Book rfl)) (nomark _)))))) (pss_one (ps_ret pe_bl)) pss_nil)
      (pss_cons (ps_expr (pe_bm PySem.F.plainAttrs_list PySem.F.slot_list_append PySem.F.type_list_append mt_append (pe_fld (pv 0) rfl) (pa_cons (pv 2) pa_nil)))
      (pss_cons (ps_expr (pe_bm PySem.F.plainAttrs_list PySem.F.slot_list_append PySem.F.type_list_append mt_append (pe_fld (pv 0) rfl) (pa_cons (u_prop (ok_Kind_name T) T.cls_Kind T.p_Kind_name hr (pv 2)) pa_nil)))
      (pss_one (ps_ret pe_bl)))))), ?_⟩
    have hqH := hR.bh _ _ hq
    refine ⟨_, rfl, q, ws, rfl, hqH, fun w h => (hw w h).1, fun H1 hn e1 => ?_, fun k hk H1 b dk e1 nb1 hb => ?_⟩
    · refine ⟨_, rfl, rfl, _, rfl, ?_⟩
      rw [decide_eq_true rfl]
      refine kN H1 ?_ (hR.bh.trans e1)
      unfold tkKind
      rw [hn]
    · have hR1 := hR.more e1
      have bN := hR.bh.none nb1
      obtain ⟨⟨dx, p, n, o, f, as, es, h1, h2, h3, h4, h5, ⟨b1, b2, b3, b4, b5⟩, ⟨pn, of_⟩, hkk, hf, he⟩, bh, ok⟩ := hR1
      refine ⟨_, rfl, rfl, _, rfl, ?_⟩
      rw [decide_eq_false (show ¬ V.ref b = V.non by intro z; cases z)]
      refine ⟨_, rfl, b, dk, _, rfl, hb, b, dk, _, _, rfl, hb, rfl, _, rfl, a, _, dx, _, _, rfl, h1, T.cls_Reading, nfR T (by decide), rfl, n, _, rfl, .inl (SqL.of h3), rfl, flat_strs _, _, rfl, ?_⟩
      show if inV (.str k.name) (d.names.map V.str) = true then _ else _
      rw [inV_strs]
      refine iteB (fun hi => ?_) (fun hi => ?_)
      · refine kN H1 ?_ bh
        unfold tkKind
        rw [hk]
        exact if_pos (.inl (of_decide_eq_true hi))
      · refine ⟨_, rfl, a, _, dx, _, _, rfl, h1, T.cls_Reading, nfR T (by decide), rfl, n, _, rfl, .inl (SqL.of h3), _, _, .int 5, _, rfl, rdB, cvB, rfl, _, rfl, ?_⟩
        have ln : ((d.names.map V.str).length : Int) = (d.ks.length : Int) := by
          rw [List.length_map]
          unfold RdD.names
          rw [List.length_map]
        rw [eI, ln]
        refine iteB (fun h5' => ?_) (fun h5' => ?_)
        · refine kN H1 ?_ bh
          unfold tkKind
          rw [hk]
          have := of_decide_eq_true h5'
          exact if_pos (.inr (by omega))
        · have l5 : d.ks.length ≠ 5 := fun z => of_decide_eq_false h5' (by rw [z]; rfl)
          have few := ok.few
          have nin := of_decide_eq_false hi
          have la : as.length = d.ks.length := hkk.length
          refine ⟨_, rfl, a, _, dx, _, _, rfl, h1, T.cls_Reading, nfR T (by decide), rfl, .inl ⟨rfl, _, SqL.of h2⟩, _, rfl, p, _, _, rfl, rfl, h2, (by rw [List.length_map, sizeLine_eq]; omega), ?_⟩
          have ap : a ≠ p := ne_of h1 h2 (by intro z; cases z)
          have np : n ≠ p := pn.symm
          have bp : b ≠ p := ne_of hb h2 (by intro z; cases z)
          have bnn : b ≠ n := ne_of hb h3 (by intro z; cases z)
          have an : a ≠ n := ne_of h1 h3 (by intro z; cases z)
          refine ⟨_, rfl, a, _, dx, _, _, rfl, (upd_ne ap).trans h1, T.cls_Reading, nfR T (by decide), rfl, .inl ⟨rfl, _, SqL.of ((upd_ne np).trans h3)⟩, _, rfl, b, dk, _, rfl, (upd_ne bp).trans hb, b, dk, _, _, rfl, (upd_ne bp).trans hb, rfl, n, _, _, rfl, rfl, (upd_ne np).trans h3, (by rw [sizeLine_eq]; omega), ?_⟩
          have up : ∀ {w : Addr} {v : HO}, H1 w = some v → (∀ l, v ≠ .lst l) → upd (upd H1 p (.lst (as.map V.ref ++ [V.ref b]))) n (.lst (d.names.map V.str ++ [V.str k.name])) w = some v := fun {w v} h z => by
            rw [upd_ne (ne_of h h3 (z _)), upd_ne (ne_of h h2 (z _))]
            exact h
          refine kS _ (d.addKind k) ?_ ⟨⟨dx, p, n, o, f, as ++ [b], es, up h1 (by intro _ z; cases z), ?_, ?_, up h4 (by intro _ z; cases z), up h5 (by intro _ z; cases z), ⟨b1, b2, b3, b4, b5⟩, ⟨pn, of_⟩, ?_, fun e h => ?_, he⟩, (bh.put b2).put b3, ?_⟩
          · unfold tkKind
            rw [hk]
            exact if_neg (by rintro (z | z); exact nin z; exact l5 z)
          · rw [upd_ne pn, upd_same, List.map_append]
            rfl
          · rw [upd_same, names_add, List.map_append]
            rfl
          · exact paired_snoc (paired_mono (fun _ _ ⟨d', h⟩ => ⟨d', up h (by intro _ z; cases z)⟩) hkk) ⟨dk, up hb (by intro _ z; cases z)⟩
          · obtain ⟨df, h⟩ := hf e h
            exact ⟨df, up h (by intro _ z; cases z)⟩
          · have em : d.m = 0 := m0
            have f0 := ok.fl0 (by rw [em]; decide)
            refine ⟨?_, ?_, ?_, .inl em, fun z => absurd em z, ok.cok, ok.lo, ?_, ok.fln, ?_, fun _ => f0⟩
            · show (d.ks ++ [k]).length ≤ 5
              rw [List.length_append]
              show d.ks.length + 1 ≤ 5
              omega
            · rw [names_add, List.nodup_append]
              refine ⟨ok.nd, by simp, ?_⟩
              intro u hu v hv
              rw [List.mem_singleton.mp hv]
              exact fun z => nin (z ▸ hu)
            · intro k' hk'
              rcases List.mem_append.mp hk' with h | h
              · exact ok.kok k' h
              · rw [List.mem_singleton.mp h]
                exact kindIn_ok hk
            · show d.last < ((d.ks ++ [k]).length : Int)
              rw [f0.2]
              omega
            · intro e h
              have z : e ∈ d.fl := h
              rw [f0.1] at z
              cases z
end
end U
/-! ## texts.py: Reading.take_registers -/
namespace U
open PySem PySem.Spec PyProof.Rows L2 StX
section
variable {W : Wd}
/-! ### lists of texts compared -/
def strsD (ws : List Str) : PyData := .list (ws.map PyData.str)
theorem lay_strs : ∀ {ws : List Str}, (∀ w ∈ ws, PyData.strOk w = true) → PyData.canLayAll0 (ws.map PyData.str) = true
  | [], _ => rfl
  | w :: r, h => by
    show (PyData.strOk w && PyData.canLayAll0 (r.map PyData.str)) = true
    rw [h w (.head _), lay_strs fun k hk => h k (.tail _ hk)]
    rfl
theorem depth_strs : ∀ ws : List Str, PyData.depthAll (ws.map PyData.str) = 0
  | [] => by simp [PyData.depthAll]
  | w :: r => by
    have e := depth_strs r
    rw [List.map_cons]
    simp [PyData.depthAll, PyData.depth, e]
theorem shaped_strs {ws : List Str} (h : ∀ w ∈ ws, PyData.strOk w = true) : SeqAt.shaped (strsD ws) = true := by
  unfold SeqAt.shaped
  have e1 : (strsD ws).canLay0 = true := lay_strs h
  have e2 : (strsD ws).depth ≤ 64 := by
    unfold strsD
    simp [PyData.depth, depth_strs]
  rw [e1, decide_eq_true e2]
  rfl
theorem dpall_strs {K : Fg} {H : Hp} : ∀ ws : List Str, DpAll K H (ws.map V.str) (ws.map PyData.str)
  | [] => .nil
  | _ :: r => .cons (.str _) (dpall_strs r)
theorem dp_strs {K : Fg} {H : Hp} {p : Addr} {ws : List Str} (h : SqL K H p (ws.map V.str)) : Dp K H (.ref p) (strsD ws) := .lst h (dpall_strs ws)
theorem eqvAll_strs : ∀ a b : List Str, PyData.eqvAll (a.map PyData.str) (b.map PyData.str) = decide (a = b)
  | [], [] => rfl
  | [], _ :: _ => rfl
  | _ :: _, [] => rfl
  | x :: a, y :: b => by
    show (x == y && PyData.eqvAll (a.map PyData.str) (b.map PyData.str)) = _
    rw [eqvAll_strs a b, Bool.eq_iff_iff]
    simp
theorem eqv_strs (a b : List Str) : PyData.eqv (strsD a) (strsD b) = decide (a = b) := eqvAll_strs a b
theorem name_strOk {d : RdD} (ok : RdOk d) : ∀ w ∈ d.names, PyData.strOk w = true := by
  intro w hw
  obtain ⟨k, hk, rfl⟩ := List.mem_map.mp hw
  exact strOk_of (He.ba (He.ba (He.ba (ok.kok k hk)).1).2).2 letters_lt
theorem kindF_ne {k : KindD} {p n o f : Addr} {i : Int} (h : kindF k = rdF p n o f i) : False := by
  unfold kindF rdF at h
  injection h with h _
  injection h with h _
  exact absurd h (by decide)
theorem fillF_ne {g : FillD} {p n o f : Addr} {i : Int} (h : fillF g = rdF p n o f i) : False := by
  unfold fillF rdF at h
  injection h with h _
  injection h with h _
  exact absurd h (by decide)
/-! ### take_registers -/
def RdD.regs (d : RdD) (w f : Int) : RdD := { d with m := 2, c := { d.c with wholes := w, floats := f } }
def tkRegs (ws : List Str) (d : RdD) : Option RdD := match ws with
  | [a, b, c] => if a = Str.ofString "registers" ∧ d.ks ≠ [] then (match numIn b, numIn c with
      | .int w, .int f => if w ≤ 3 ∧ f ≤ 3 then some (d.regs w f) else none
      | _, _ => none) else none
  | _ => none
theorem numIn_nonneg {z : Str} {i : Int} (h : numIn z = .int i) : 0 ≤ i := by
  unfold numIn at h
  by_cases q : isDec z = true ∧ z.length ≤ 3
  · rw [if_pos q] at h
    injection h with h
    rw [← h]
    unfold valT
    omega
  · rw [if_neg q] at h
    cases h
theorem sc_Rd_regs : FnScope ["self", "words", "wholes", "floats", "word"] ["self", "words"] (defScope s_Reading_take_registers) := ⟨rfl, rfl, rfl, by decide +kernel, rfl, by decide +kernel, by decide +kernel⟩
theorem names_nil {d : RdD} : d.names = [] ↔ d.ks = [] := by
  unfold RdD.names
  exact List.map_eq_nil_iff
theorem ok_Rd_regs (T : Tx W) : Fn W CX0 4 (ca "Reading" "take_registers" W.K) ["self", "words"] (spTk W.K (fun d => d.m = 0) tkRegs) := by
  obtain ⟨fd, F⟩ := T.d_Reading_take_registers
  obtain ⟨t1, c1⟩ := T.c_MOST_REGISTERS_texts
  refine ⟨⟨fd, ?_, F.bindsN fun _ _ _ _ _ _ us hl => match us, hl with | [_, _], _ => rfl⟩, F.kp⟩
  refine F.ok sc_Rd_regs (fun vs H Q E h => ?_) (fun cdv A outer s H vs Q E hr h => ?_)
  · obtain ⟨a, p, B, d, ws, rfl, _⟩ := h
    rfl
  · obtain ⟨a, q, B, d, ws, rfl, hR, hq, hw, hne, m0, kN, kS⟩ := h
    refine ⟨_, PSs.nox (pss_cons (ps_if (PW.pt (pw_or (pt_cmpR op_ne (pe_callB call_len_seq (by rfl) T.f_len (by decide +kernel) (pa_cons (pv 1) pa_nil)) pe_int (nomark _))
          (pw_or (pt_cmpR op_ne (pe_ix ix_list (pv 1) pe_int (fun _ _ => rfl)) pe_str (nomark _))
          (pw_or1 (pt_cmpR (op_eqD (u64 hr)) (pe_fld (pv 0) rfl) (pe_lst pa_nil) (nomark _)))))) (pss_one (ps_ret pe_bl)) pss_nil)
      (pss_cons (ps_asg (pe_lc (own := [("word", 4)]) (g := gName 4) (tt := tYes) rfl sc_Rd_regs.nd (pi_list (pe_slice sl_list (pv 1) (po_some pe_int) po_none)) (blkOk_by (N := ["self", "words", "wholes", "floats", "word"]) (sc := defScope s_Reading_take_registers) (by decide +kernel))
          (fun _ _ _ _ _ => pg_name (i := 4) sc_Rd_regs.nd rfl (Or.inl rfl)) (fun _ _ _ _ _ => pts_nil) (fun _ _ _ _ _ => u_call (ok_number_in T) T.g_number_in hr (pa_cons (pv 4) pa_nil)))
          (pg_lst rfl (pgs_cons (pg_name (i := 2) sc_Rd_regs.nd rfl (Or.inl rfl)) (pgs_cons (pg_name (i := 3) sc_Rd_regs.nd rfl (Or.inl rfl)) pgs_nil))))
      (pss_cons (ps_if (PW.pt (pw_or (pt_cmpR op_isN (pv 2) pe_non (nomark _)) (pw_or (pt_cmpR op_isN (pv 3) pe_non (nomark _)) (pw_or (pt_cmpR op_gt (pv 2) (pe_glob (v := .int 3) (by rfl) c1 ⟨_, rfl⟩) (nomark _)) (pw_or1 (pt_cmpR op_gt (pv 3) (pe_glob (v := .int 3) (by rfl) c1 ⟨_, rfl⟩) (nomark _))))))) (pss_one (ps_ret pe_bl)) pss_nil)
      (pss_cons (ps_fld (pv 0) (pe_disp (pps_cons pe_str (pv 2) (pps_cons pe_str (pv 3) pps_nil)) rfl rfl (by simp) (by decide)) rfl)
      (pss_one (ps_ret pe_bl)))))), ?_⟩
    have hqH := hR.bh _ _ hq
    obtain ⟨⟨dx, p, n, o, f, as, es, h1, h2, h3, h4, h5, ⟨b1, b2, b3, b4, b5⟩, ⟨pn, of_⟩, hkk, hf, he⟩, bh, ok⟩ := id hR
    refine ⟨_, rfl, q, _, rfl, .inl (SqL.of hqH), rfl, _, rfl, ?_⟩
    refine iteB (c := !_) (fun z1 => kN H ?_ bh) (fun z1 => ?_)
    · have h2 : ¬ ws.length = 3 := fun e => by
        have e2 : ((ws.map V.str).length : Int) = 3 := by rw [List.length_map, e]; rfl
        rw [decide_eq_true (by rw [e2])] at z1
        cases z1
      unfold tkRegs
      split
      · exact absurd rfl h2
      · rfl
    · obtain ⟨x, y, z, rfl⟩ : ∃ x y z, ws = [x, y, z] := by
        have h2 := nf z1
        rw [eI] at h2
        have h3 := of_decide_eq_true h2
        rw [List.length_map] at h3
        have h4 : ws.length = 3 := by omega
        match ws, h4 with
        | [x, y, z], _ => exact ⟨x, y, z, rfl⟩
      refine ⟨_, rfl, q, _, _, _, rfl, rfl, SqL.of hqH, rfl, rfl, _, rfl, ?_⟩
      rw [eS]
      refine iteB (c := !_) (fun z2 => kN H ?_ bh) (fun z2 => ?_)
      · unfold tkRegs
        dsimp only
        rw [if_neg]
        rintro ⟨u, _⟩
        rw [decide_eq_true u] at z2
        cases z2
      · have ex : x = Str.ofString "registers" := of_decide_eq_true (nf z2)
        refine ⟨_, rfl, a, _, dx, _, _, rfl, h1, T.cls_Reading, nfR T (by decide), rfl, by show 0 ≤ sizeLine; decide, fun l hl => ?_⟩
        have e1 : Ex H (upd H l (.lst [])) := (Ex.refl H).more hl
        refine ⟨strsD d.names, strsD [], dp_strs (SqL.of (e1 _ _ h3)), dp_strs (SqL.of upd_same), shaped_strs (name_strOk ok), shaped_strs (fun w h => absurd h List.not_mem_nil), ?_⟩
        rw [eqv_strs]
        refine ⟨_, rfl, ?_⟩
        refine iteB (fun z3 => kN _ ?_ (bh.trans e1)) (fun z3 => ?_)
        · unfold tkRegs
          dsimp only
          rw [if_neg]
          rintro ⟨_, u⟩
          exact u (names_nil.mp (of_decide_eq_true z3))
        · have kne : d.ks ≠ [] := fun u => of_decide_eq_false z3 (names_nil.mpr u)
          have base : tkRegs [x, y, z] d = (match numIn y, numIn z with
              | .int w, .int f => if w ≤ 3 ∧ f ≤ 3 then some (d.regs w f) else none
              | _, _ => none) := by
            unfold tkRegs
            dsimp only
            rw [if_pos ⟨ex, kne⟩]
          generalize upd H l (.lst []) = H1 at e1 ⊢
          have hq1 := e1 _ _ hqH
          refine ⟨_, rfl, _, rfl, q, _, rfl, SqL.of hq1, fun r hr1 => ⟨r, rfl, ⟨_, SqL.of upd_same⟩, fun D hD => ?_⟩⟩
          have exq : cutV ([x, y, z].map V.str) (some 1) none = [V.str y, .str z] := rfl
          have e2 : Ex H1 (upd H1 r (.lst (cutV ([x, y, z].map V.str) (some 1) none))) := (Ex.refl H1).more hr1
          rw [exq] at hD e2 ⊢
          refine lc_map (S := []) (B := upd H1 r (.lst [V.str y, .str z])) (walk_list (xs := [V.str y, .str z])) [numIn y, numIn z] rfl (by show 2 ≤ 16777216; decide) (Ex.refl _) hD (fun _ _ _ => True) True.intro (fun i B' H' hi at_ _ => SqL.of (at_.st.bh r _ (at_.st.bb r _ upd_same))) (fun i u v B' H' H'' R R' hi hy at_ _ hx rr => ?_) (fun B' H' at_ _ => ?_)
          · obtain ⟨rfl, hx⟩ := hx
            obtain ⟨w, rfl, rfl, hwl⟩ : ∃ w : Str, u = .str w ∧ v = numIn w ∧ w.length ≤ 16777216 := by
              match i, hi with
              | 0, _ => exact ⟨y, (Option.some.inj hx).symm, (Option.some.inj hy).symm, (hw y (by simp)).1⟩
              | 1, _ => exact ⟨z, (Option.some.inj hx).symm, (Option.some.inj hy).symm, (hw z (by simp)).1⟩
            refine ⟨rfl, _, rfl, w, rfl, hwl, fun H4 e4 => rr B' H4 ⟨?_, e4 D _ at_.at_⟩ fun _ => True.intro⟩
            exact ⟨at_.st.bb, at_.st.bh.trans e4, fun a o n h => e4 a o (at_.st.hh a o n h), at_.st.nb⟩
          · have e5 : Ex H H' := e1.trans (e2.trans (at_.st.bb.trans at_.st.bh))
            have bH := bh.trans e5
            refine ⟨D, _, rfl, SqL.of at_.at_, rfl, ?_⟩
            refine ⟨_, _, rfl, _, _, rfl, rfl, ?_⟩
            refine ⟨_, rfl, rfl, _, rfl, ?_⟩
            rcases numIn_cases y with ny | ⟨wi, ny⟩
            · rw [ny, decide_eq_true rfl]
              refine kN H' ?_ bH
              rw [base, ny]
            · rw [ny, decide_eq_false (show ¬ V.int wi = V.non by intro z; cases z)]
              refine ⟨_, rfl, rfl, _, rfl, ?_⟩
              rcases numIn_cases z with nz | ⟨fi, nz⟩
              · rw [nz, decide_eq_true rfl]
                refine kN H' ?_ bH
                rw [base, ny, nz]
              · rw [nz, decide_eq_false (show ¬ V.int fi = V.non by intro z; cases z)]
                rw [ny, nz] at base
                dsimp only at base
                refine ⟨_, rfl, _, _, rfl, rfl, _, rfl, ?_⟩
                refine iteB (fun z4 => kN H' ?_ bH) (fun z4 => ?_)
                · rw [base, if_neg]
                  have := of_decide_eq_true z4
                  omega
                · refine ⟨_, rfl, _, _, rfl, rfl, _, rfl, ?_⟩
                  refine iteB (fun z5 => kN H' ?_ bH) (fun z5 => ?_)
                  · rw [base, if_neg]
                    have := of_decide_eq_true z5
                    omega
                  · have w3 := of_decide_eq_false z4
                    have f3 := of_decide_eq_false z5
                    rw [if_pos ⟨by omega, by omega⟩] at base
                    have w0 := numIn_nonneg ny
                    have f0 := numIn_nonneg nz
                    refine fun o2 ho2 => ⟨_, rfl, _, rfl, upd_same, [((Sum.inr "wholes" : Key), V.int wi), (Sum.inr "floats", .int fi)], rfl, (by show 2 ≤ 15; decide), ?_⟩
                    rw [upd_upd, show mergeK [] [((Sum.inr "wholes" : Key), V.int wi), (Sum.inr "floats", .int fi)] = optK 2 (d.regs wi fi).c by kernel_rfl]
                    have g1 := e5 _ _ h1
                    have g2 := e5 _ _ h2
                    have g3 := e5 _ _ h3
                    have g5 := e5 _ _ h5
                    have ao := ne_of_none g1 ho2
                    refine ⟨_, rfl, a, _, dx, _, rfl, (upd_ne ao).trans g1, T.cls_Reading, nfR T (by decide), (by show 5 < 1000; decide), ?_⟩
                    have up : ∀ {w : Addr} {v : HO}, H' w = some v → w ≠ a → upd (upd H' o2 (.dK (optK 2 (d.regs wi fi).c))) a (.ins (ga W.K "Reading") dx (putF "own_options" (.ref o2) (rdF p n o f d.last))) w = some v := fun {w v} h z => by
                      rw [upd_ne z, upd_ne (ne_of_none h ho2)]
                      exact h
                    refine kS _ (d.regs wi fi) base ⟨⟨dx, p, n, o2, f, as, es, ?_, up g2 (ne_of g2 g1 (by intro z; cases z)), up g3 (ne_of g3 g1 (by intro z; cases z)), ?_, up g5 (ne_of g5 g1 (by intro z; cases z)), ⟨b1, b2, b3, bH.none ho2, b5⟩, ⟨pn, (ne_of_none g5 ho2).symm⟩, ?_, fun e h => ?_, he⟩, (bH.more ho2).put b1, ?_⟩
                    · rw [upd_same]
                      rfl
                    · rw [upd_ne ao.symm, upd_same]
                      rfl
                    · exact paired_mono (fun _ _ ⟨d', h⟩ => ⟨d', up (e5 _ _ h) (ne_of (e5 _ _ h) g1 (by
                        intro z
                        injection z with _ _ z
                        exact kindF_ne z))⟩) hkk
                    · obtain ⟨df, h6⟩ := hf e h
                      exact ⟨df, up (e5 _ _ h6) (ne_of (e5 _ _ h6) g1 (by
                        intro z
                        injection z with _ _ z
                        exact fillF_ne z))⟩
                    · have em : d.m = 0 := m0
                      have fz := ok.fl0 (by rw [em]; decide)
                      exact ⟨ok.few, ok.nd, ok.kok, .inr ⟨by show 2 ≤ 2; decide, by show 2 ≤ 9; decide⟩, fun _ => kne, ⟨⟨w0, by show wi ≤ 3; omega⟩, ⟨f0, by show fi ≤ 3; omega⟩, ok.cok.doubles, ok.cok.slot, ok.cok.home, ok.cok.tail⟩, ok.lo, ok.hi, ok.fln, ok.flm, fun _ => fz⟩
end
end U
/-! ## texts.py: Reading.take_choice -/
namespace U
open PySem PySem.Spec PyProof.Rows L2 StX
section
variable {W : Wd}
def setOpt (i : Nat) (v : V) (c : ConvD) : ConvD := match i, v with
  | 0, .bl b => { c with together := b }
  | 1, .str z => { c with doubles := z }
  | 2, .bl b => { c with again := b }
  | 3, .int i => { c with slot := i }
  | 4, .bl b => { c with natural := b }
  | 5, .int i => { c with home := i }
  | 6, .str z => { c with tail := z }
  | _, _ => c
def RdD.choose (d : RdD) (v : V) : RdD := { d with m := d.m + 1, c := setOpt (d.m - 2) v d.c }
def fits (ws : List Str) (c : Str × V) : Bool := decide (ws.tail = [c.1])
def tkChoice (ws : List Str) (d : RdD) : Option RdD := match choices[d.m - 2]? with
  | none => none
  | some ch => if ws.head? = some ch.1 then (match ch.2.filter (fits ws) with
      | [] => none
      | c :: _ => some (d.choose c.2)) else none
theorem opt_step {m : Nat} {c : ConvD} {ch : Str × List (Str × V)} {x : Str × V} (h2 : 2 ≤ m) (h9 : m < 9) (hc : choices[m - 2]? = some ch) (hx : x ∈ ch.2) (ok : c.Ok) :
    putK (optK m c) (Sum.inr ch.1) x.2 = optK (m + 1) (setOpt (m - 2) x.2 c) ∧ (setOpt (m - 2) x.2 c).Ok := by
  have hm : m = 2 ∨ m = 3 ∨ m = 4 ∨ m = 5 ∨ m = 6 ∨ m = 7 ∨ m = 8 := by omega
  rcases hm with h | h | h | h | h | h | h <;> subst h <;> (obtain rfl := Option.some.inj hc)
  · rcases List.mem_cons.mp hx with h | h
    · subst h; exact ⟨by kernel_rfl, ok.wholes, ok.floats, ok.doubles, ok.slot, ok.home, ok.tail⟩
    · obtain rfl := List.mem_singleton.mp h; exact ⟨by kernel_rfl, ok.wholes, ok.floats, ok.doubles, ok.slot, ok.home, ok.tail⟩
  · rcases List.mem_cons.mp hx with h | h
    · subst h; exact ⟨by kernel_rfl, ok.wholes, ok.floats, .inl rfl, ok.slot, ok.home, ok.tail⟩
    · rcases List.mem_cons.mp h with h | h
      · subst h; exact ⟨by kernel_rfl, ok.wholes, ok.floats, .inr (.inl rfl), ok.slot, ok.home, ok.tail⟩
      · obtain rfl := List.mem_singleton.mp h; exact ⟨by kernel_rfl, ok.wholes, ok.floats, .inr (.inr rfl), ok.slot, ok.home, ok.tail⟩
  · rcases List.mem_cons.mp hx with h | h
    · subst h; exact ⟨by kernel_rfl, ok.wholes, ok.floats, ok.doubles, ok.slot, ok.home, ok.tail⟩
    · obtain rfl := List.mem_singleton.mp h; exact ⟨by kernel_rfl, ok.wholes, ok.floats, ok.doubles, ok.slot, ok.home, ok.tail⟩
  · rcases List.mem_cons.mp hx with h | h
    · subst h; exact ⟨by kernel_rfl, ok.wholes, ok.floats, ok.doubles, .inl rfl, ok.home, ok.tail⟩
    · obtain rfl := List.mem_singleton.mp h; exact ⟨by kernel_rfl, ok.wholes, ok.floats, ok.doubles, .inr rfl, ok.home, ok.tail⟩
  · rcases List.mem_cons.mp hx with h | h
    · subst h; exact ⟨by kernel_rfl, ok.wholes, ok.floats, ok.doubles, ok.slot, ok.home, ok.tail⟩
    · obtain rfl := List.mem_singleton.mp h; exact ⟨by kernel_rfl, ok.wholes, ok.floats, ok.doubles, ok.slot, ok.home, ok.tail⟩
  · rcases List.mem_cons.mp hx with h | h
    · subst h; exact ⟨by kernel_rfl, ok.wholes, ok.floats, ok.doubles, ok.slot, .inl rfl, ok.tail⟩
    · rcases List.mem_cons.mp h with h | h
      · subst h; exact ⟨by kernel_rfl, ok.wholes, ok.floats, ok.doubles, ok.slot, .inr (.inl rfl), ok.tail⟩
      · obtain rfl := List.mem_singleton.mp h; exact ⟨by kernel_rfl, ok.wholes, ok.floats, ok.doubles, ok.slot, .inr (.inr rfl), ok.tail⟩
  · rcases List.mem_cons.mp hx with h | h
    · subst h; exact ⟨by kernel_rfl, ok.wholes, ok.floats, ok.doubles, ok.slot, ok.home, .inl rfl⟩
    · obtain rfl := List.mem_singleton.mp h; exact ⟨by kernel_rfl, ok.wholes, ok.floats, ok.doubles, ok.slot, ok.home, .inr rfl⟩
/-- what the choices hold, as data -/
def dataV : V → PyData
  | .bl b => .bool b
  | .int i => .int i
  | .str z => .str z
  | _ => .none
def plainV : V → Bool
  | .bl _ => true
  | .int _ => true
  | .str z => PyData.strOk z
  | _ => false
theorem cho_plain : ∀ ch ∈ choices, ∀ c ∈ ch.2, plainV c.2 = true ∧ PyData.strOk c.1 = true := by decide +kernel
theorem cho_few : ∀ ch ∈ choices, ch.2.length ≤ 3 := by decide +kernel
theorem dpall_plain {K : Fg} {H : Hp} : ∀ {vs : List V}, (∀ v ∈ vs, plainV v = true) → DpAll K H vs (vs.map dataV)
  | [], _ => .nil
  | v :: r, h => by
    have h1 := h v (.head _)
    refine .cons ?_ (dpall_plain fun u hu => h u (.tail _ hu))
    cases v with
    | bl b => exact .bl b
    | int i => exact .int i
    | str z => exact .str z
    | _ => cases h1
theorem lay_plain : ∀ {vs : List V}, (∀ v ∈ vs, plainV v = true) → PyData.canLayAll0 (vs.map dataV) = true ∧ PyData.depthAll (vs.map dataV) = 0
  | [], _ => ⟨rfl, by simp [PyData.depthAll]⟩
  | v :: r, h => by
    have h1 := h v (.head _)
    obtain ⟨i1, i2⟩ := lay_plain fun u hu => h u (.tail _ hu)
    have e1 : (dataV v).canLay0 = true := by
      cases v with
      | str z => exact h1
      | bl b => rfl
      | int i => rfl
      | _ => cases h1
    have e2 : (dataV v).depth = 0 := by
      cases v <;> simp [dataV, PyData.depth]
    constructor
    · show ((dataV v).canLay0 && PyData.canLayAll0 (r.map dataV)) = true
      rw [e1, i1]
      rfl
    · rw [List.map_cons]
      simp [PyData.depthAll, e2, i2]
theorem shaped_plain {vs : List V} (h : ∀ v ∈ vs, plainV v = true) : SeqAt.shaped (.list (vs.map dataV)) = true := by
  obtain ⟨i1, i2⟩ := lay_plain h
  unfold SeqAt.shaped
  have e1 : (PyData.list (vs.map dataV)).canLay0 = true := i1
  have e2 : (PyData.list (vs.map dataV)).depth ≤ 64 := by
    simp [PyData.depth, i2]
  rw [e1, decide_eq_true e2]
  rfl
theorem atI_zero {α : Type} {x : α} {xs : List α} : atI (x :: xs) 0 = some x := atI_nat (xs := x :: xs) (j := 0) rfl
theorem eqv_nil (ds : List PyData) : PyData.eqv (.list ds) (.list []) = ds.isEmpty := by
  cases ds <;> rfl
theorem sc_Rd_choice : FnScope ["self", "words", "word", "told", "found", "text", "value"] ["self", "words"] (defScope s_Reading_take_choice) := ⟨rfl, rfl, rfl, by decide +kernel, rfl, by decide +kernel, by decide +kernel⟩
theorem ok_Rd_choice (T : Tx W) : Fn W CX0 1 (ca "Reading" "take_choice" W.K) ["self", "words"] (spTk W.K (fun d => 2 ≤ d.m ∧ d.m < 9) tkChoice) := by
  obtain ⟨fd, F⟩ := T.d_Reading_take_choice
  obtain ⟨cps, ct, cp⟩ := T.t_CHOICES
  refine ⟨⟨fd, ?_, F.bindsN fun _ _ _ _ _ _ us hl => match us, hl with | [_, _], _ => rfl⟩, F.kp⟩
  refine F.ok sc_Rd_choice (fun vs H Q E h => ?_) (fun cdv A outer s H vs Q E hr h => ?_)
  · obtain ⟨a, p, B, d, ws, rfl, _⟩ := h
    rfl
  · obtain ⟨a, q, B, d, ws, rfl, hR, hq, hw, hne, ⟨m2, m9⟩, kN, kS⟩ := h
    refine ⟨_, PSs.nox (pss_cons (ps_asg (pe_ix ix_tup (pe_glob (v := .ref (ga W.K "CHOICES")) (by rfl) T.g_CHOICES rfl) (pe_op op_sub (pe_callB call_lenD (by rfl) T.f_len (by decide +kernel) (pa_cons (pe_fld (pv 0) rfl) pa_nil)) pe_int) (fun _ _ => rfl))
          (pg_tup rfl (pgs_cons (pg_name (i := 2) sc_Rd_choice.nd rfl (Or.inl rfl)) (pgs_cons (pg_name (i := 3) sc_Rd_choice.nd rfl (Or.inl rfl)) pgs_nil))))
      (pss_cons (ps_setLc (i := 4) (own := [("text", 5), ("value", 6)]) (g := gTup W.K 2 (gCons (gName 5) (gCons (gName 6) gNil))) (tt := tTest (tOp (rEqD W.K) (tSl (rSlL W.K) (tVar 1) (tPart (tC (.int 1))) tNoPart) (tLst (tCons (tVar 5) tNil)))) (te := tVar 6) rfl sc_Rd_choice.nd rfl rfl (sw_true rfl rfl rfl (by decide +kernel)) (pi_tup (pv 3)) (blkOk_by (N := ["self", "words", "word", "told", "found", "text", "value"]) (sc := defScope s_Reading_take_choice) (by decide +kernel))
          (fun _ _ _ _ _ => pg_tup rfl (pgs_cons (pg_name (i := 5) sc_Rd_choice.nd rfl (Or.inl rfl)) (pgs_cons (pg_name (i := 6) sc_Rd_choice.nd rfl (Or.inl rfl)) pgs_nil)))
          (fun _ _ _ _ _ => pts_one (pt_cmpR (op_eqD (u64 hr)) (pe_slice sl_list (pv 1) (po_some pe_int) po_none) (pe_lst (pa_cons (pv 5) pa_nil)) (nomark _))) (fun _ _ _ _ _ => pv 6))
      (pss_cons (ps_if (PW.pt (pw_or (pt_cmpR op_ne (pe_ix ix_list (pv 1) pe_int (fun _ _ => rfl)) (pv 2) (nomark _)) (pw_or1 (pt_cmpR (op_eqD (u64 hr)) (pv 4) (pe_lst pa_nil) (nomark _))))) (pss_one (ps_ret pe_bl)) pss_nil)
      (pss_cons (ps_dput (hu_of hr) (pe_fld (pv 0) rfl) (pv 2) (pe_ix ix_list (pv 4) pe_int (fun _ _ => rfl)) rfl)
      (pss_one (ps_ret pe_bl)))))), ?_⟩
    have hqH := hR.bh _ _ hq
    obtain ⟨⟨dx, p, n, o, f, as, es, h1, h2, h3, h4, h5, ⟨b1, b2, b3, b4, b5⟩, ⟨pn, of_⟩, hkk, hf, he⟩, bh, ok⟩ := id hR
    obtain ⟨ch, hch⟩ : ∃ ch, choices[d.m - 2]? = some ch := by
      have : d.m - 2 < choices.length := by show d.m - 2 < 7; omega
      exact ⟨_, List.getElem?_eq_getElem this⟩
    have hcm := List.mem_of_getElem? hch
    obtain ⟨ca, hca⟩ : ∃ ca, cps[d.m - 2]? = some ca := by
      have : d.m - 2 < cps.length := by rw [cp.length]; show d.m - 2 < 7; omega
      exact ⟨_, List.getElem?_eq_getElem this⟩
    obtain ⟨ch', hch', r1, rs, g1, g2, g3⟩ := paired_get cp hca
    obtain rfl : ch = ch' := Option.some.inj (hch.symm.trans hch')
    have few := cho_few ch hcm
    have lrs : rs.length = ch.2.length := g3.length
    refine ⟨_, rfl, a, _, dx, _, _, rfl, h1, T.cls_Reading, nfR T (by decide), rfl, o, _, rfl, h4, _, _, rfl, rfl, ?_⟩
    refine ⟨_, _, _, V.ref ca, rfl, rfl, ct H, ?_, ?_⟩
    · rw [optK_len _ (by omega), show (((d.m : Nat) : Int) - 2) = ((d.m - 2 : Nat) : Int) by omega]
      refine atI_nat ?_
      rw [List.getElem?_map, hca]
      rfl
    · refine ⟨ca, _, rfl, g1 H, rfl, _, _, rfl, _, _, rfl, rfl, ?_⟩
      refine ⟨_, rfl, r1, rfl, ⟨_, g2 H⟩, fun D hD => ?_⟩
      have e0 : Ex H (upd H D (.lst [])) := (Ex.refl H).more hD
      refine lc_it (walk_tup (xs := rs.map V.ref)) (fun i Hc => Ex H Hc ∧ Hc D = some (.lst (((ch.2.take i).filter (fits ws)).map (·.2)))) ⟨e0, upd_same⟩ (fun i Hc _ _ => g2 Hc) (fun i y Hc H2 hi hP hY => ?_) (fun Hc hP => ?_)
      · obtain ⟨ec, hDc⟩ := hP
        obtain ⟨rfl, hy⟩ := hY
        obtain ⟨pr, hpr, rfl⟩ : ∃ pr, rs[i]? = some pr ∧ y = .ref pr := by
          rw [List.getElem?_map] at hy
          cases e : rs[i]? with
          | none =>
            rw [e] at hy
            cases hy
          | some n =>
            rw [e] at hy
            exact ⟨n, rfl, (Option.some.inj hy).symm⟩
        obtain ⟨c, hc, hcp⟩ := paired_get g3 hpr
        have hcmem := List.mem_of_getElem? hc
        have cpl := cho_plain ch hcm c hcmem
        have hD0 : H D = none := hD
        have hq2 := ec _ _ hqH
        refine ⟨pr, _, rfl, hcp H2, rfl, _, _, rfl, _, _, rfl, rfl, rfl, ?_⟩
        refine ⟨_, rfl, _, rfl, q, _, rfl, SqL.of hq2, fun l1 hl1 => ?_⟩
        have exq : cutV (ws.map V.str) (some 1) none = ws.tail.map V.str := by
          have z := cut_hi (ws.map V.str) 1
          rw [show (((1 : Nat) : Int)) = 1 from rfl] at z
          rw [z, List.map_tail, List.drop_one]
        rw [exq]
        have e1 : Ex H2 (upd H2 l1 (.lst (ws.tail.map V.str))) := (Ex.refl _).more hl1
        refine ⟨_, rfl, by show 1 ≤ sizeLine; decide, fun l2 hl2 => ?_⟩
        have e2 := e1.more (o := .lst [V.str c.1]) hl2
        have l12 : l1 ≠ l2 := ne_of_none upd_same hl2
        have hDc2 := e2 _ _ hDc
        refine ⟨strsD ws.tail, strsD [c.1], dp_strs (SqL.of ((upd_ne l12).trans upd_same)), dp_strs (ws := [c.1]) (SqL.of upd_same), shaped_strs (fun w h => (hw w (List.mem_of_mem_tail h)).2), shaped_strs (fun w h => by rw [List.mem_singleton.mp h]; exact cpl.2), ?_⟩
        rw [eqv_strs]
        refine ⟨_, rfl, ?_⟩
        have eH : Ex H (upd (upd H2 l1 (.lst (ws.tail.map V.str))) l2 (.lst [V.str c.1])) := ec.trans e2
        have et := take_get hc
        have fD : (fits ws c) = decide (ws.tail = [c.1]) := rfl
        rw [← fD]
        have snoc : ((ch.2.take (i + 1)).filter (fits ws)).map (·.2) = ((ch.2.take i).filter (fits ws)).map (·.2) ++ if fits ws c = true then [c.2] else [] := by
          rw [← et, List.filter_append, List.map_append]
          congr 1
          by_cases h : fits ws c = true
          · rw [if_pos h, List.filter_cons, if_pos h]
            rfl
          · rw [if_neg h, List.filter_cons, if_neg h]
            rfl
        refine iteB (fun hb => ?_) (fun hb => ?_)
        · refine ⟨_, rfl, _, hDc2, ?_, eH.put hD0, ?_⟩
          · rw [List.length_map, sizeLine_eq]
            have z := List.length_filter_le (fits ws) (ch.2.take i)
            rw [List.length_take] at z
            omega
          · rw [upd_same, snoc, if_pos hb]
        · refine ⟨eH, ?_⟩
          rw [snoc, if_neg (by rw [hb]; exact Bool.false_ne_true), List.append_nil]
          exact hDc2
      · obtain ⟨ec, hDc⟩ := hP
        rw [List.length_map, lrs, List.take_length] at hDc
        have hq2 := ec _ _ hqH
        have bH := bh.trans ec
        cases ws with
        | nil => exact absurd rfl hne
        | cons w0 wr =>
          have hd : (w0 :: wr : List Str).head? = some w0 := rfl
          have base : tkChoice (w0 :: wr) d = if w0 = ch.1 then (match ch.2.filter (fits (w0 :: wr)) with
              | [] => none
              | c :: _ => some (d.choose c.2)) else none := by
            unfold tkChoice
            rw [hch]
            dsimp only
            rw [hd]
            by_cases h : w0 = ch.1
            · rw [if_pos h, if_pos (by rw [h])]
            · rw [if_neg h, if_neg (fun z => h (Option.some.inj z))]
          refine ⟨_, rfl, q, _, _, V.str w0, rfl, rfl, SqL.of hq2, atI_zero, _, rfl, rfl, _, rfl, ?_⟩
          rw [eS]
          refine iteB (c := !_) (fun z1 => kN Hc ?_ bH) (fun z1 => ?_)
          · rw [base, if_neg]
            intro u
            rw [decide_eq_true u] at z1
            cases z1
          · have ew : w0 = ch.1 := of_decide_eq_true (nf z1)
            rw [if_pos ew] at base
            refine ⟨_, rfl, by show 0 ≤ sizeLine; decide, fun l hl => ?_⟩
            have e1 : Ex Hc (upd Hc l (.lst [])) := (Ex.refl _).more hl
            have pl : ∀ v ∈ (ch.2.filter (fits (w0 :: wr))).map (·.2), plainV v = true := fun v hv => by
              obtain ⟨c, hc, rfl⟩ := List.mem_map.mp hv
              exact (cho_plain ch hcm c (List.mem_filter.mp hc).1).1
            refine ⟨.list (((ch.2.filter (fits (w0 :: wr))).map (·.2)).map dataV), .list [], .lst (SqL.of (e1 _ _ hDc)) (dpall_plain pl), .lst (SqL.of upd_same) .nil, shaped_plain pl, by decide, ?_⟩
            rw [eqv_nil]
            refine ⟨_, rfl, ?_⟩
            have hDl := e1 _ _ hDc
            have hE := ec.trans e1
            have bH2 := bh.trans hE
            generalize upd Hc l (.lst []) = H3 at hDl hE bH2 ⊢
            cases hfl : ch.2.filter (fits (w0 :: wr)) with
            | nil =>
              refine kN H3 ?_ bH2
              rw [base, hfl]
            | cons c cr =>
              rw [hfl] at base hDl
              dsimp only at base
              have hcm2 : c ∈ ch.2 := (List.mem_filter.mp (by rw [hfl]; exact .head _)).1
              obtain ⟨s1, s2⟩ := opt_step m2 m9 hch hcm2 ok.cok
              have k1 := hE _ _ h1
              have k4 := hE _ _ h4
              refine ⟨_, rfl, D, _, _, c.2, rfl, rfl, SqL.of hDl, atI_zero, _, rfl, a, _, dx, _, _, rfl, k1, T.cls_Reading, nfR T (by decide), rfl, _, rfl, o, _, rfl, DPut.k (k := Sum.inr ch.1) k4 (by rw [optK_len _ (by omega), sizeLine_eq]; omega), ?_⟩
              rw [s1]
              have up : ∀ {w : Addr} {v : HO}, H w = some v → w ≠ o → upd H3 o (.dK (optK (d.m + 1) (setOpt (d.m - 2) c.2 d.c))) w = some v := fun {w v} h z => by
                rw [upd_ne z]
                exact hE _ _ h
              refine kS _ (d.choose c.2) base ⟨⟨dx, p, n, o, f, as, es, up h1 (ne_of h1 h4 (by intro z; cases z)), up h2 (ne_of h2 h4 (by intro z; cases z)), up h3 (ne_of h3 h4 (by intro z; cases z)), upd_same, up h5 of_.symm, ⟨b1, b2, b3, b4, b5⟩, ⟨pn, of_⟩, ?_, fun e h => ?_, he⟩, bH2.put b4, ?_⟩
              · exact paired_mono (fun _ _ ⟨d', h⟩ => ⟨d', up h (ne_of h h4 (by intro z; cases z))⟩) hkk
              · obtain ⟨df, h6⟩ := hf e h
                exact ⟨df, up h6 (ne_of h6 h4 (by intro z; cases z))⟩
              · exact ⟨ok.few, ok.nd, ok.kok, .inr ⟨by show 2 ≤ d.m + 1; omega, by show d.m + 1 ≤ 9; omega⟩, fun _ => ok.some_ (by omega), s2, ok.lo, ok.hi, ok.fln, ok.flm, fun _ => ok.fl0 (by omega)⟩
end
end U
/-! ## texts.py: Reading.take_fill -/
namespace U
open PySem PySem.Spec PyProof.Rows L2 StX
section
variable {W : Wd}
def RdD.fill (d : RdD) (n w : Str) (x : Int) : RdD := { d with fl := d.fl ++ [(n, ⟨w, .int x⟩)], last := idxI d.names n }
def tkFill (ws : List Str) (d : RdD) : Option RdD := match ws with
  | [a, n, w, x] => if a = Str.ofString "fill" ∧ n ∈ d.names ∧ d.last < idxI d.names n ∧ (w = ZEROS ∨ w = SIGN) ∧ isExt x = true then some (d.fill n w (valT x)) else none
  | _ => none
theorem ext_facts {x : Str} (h : isExt x = true) : isDec x = true ∧ x.length ≤ 3 ∧ 3 ≤ valT x ∧ valT x ≤ 128 := by
  unfold isExt at h
  obtain ⟨h1, h2⟩ := He.ba h
  obtain ⟨h3, h4⟩ := He.ba h2
  obtain ⟨h5, h6⟩ := He.ba h4
  exact ⟨h1, of_decide_eq_true h3, of_decide_eq_true h5, of_decide_eq_true h6⟩
theorem ent_none {n : Str} : ∀ {es : List Ent}, (∀ e ∈ es, e.1 ≠ n) → valV (entK es) (Sum.inr n) = none
  | [], _ => rfl
  | e :: r, h => (valV_neg (p := ((Sum.inr e.1 : Key), V.ref e.2.1)) (fun z => h e (.head _) (Sum.inr.inj z))).trans (ent_none fun u hu => h u (.tail _ hu))
theorem idx_before {n : Str} : ∀ {ns : List Str} {m : Nat} {z : Str}, m < ns.idxOf n → ns[m]? = some z → z ≠ n
  | [], m, z, h, hz, _ => by cases hz
  | a :: r, m, z, h, hz, e => by
    subst e
    rw [List.idxOf_cons] at h
    by_cases q : a = z
    · rw [show (a == z) = true by simpa using q] at h
      exact absurd h (Nat.not_lt_zero m)
    · rw [show (a == z) = false by simpa using q] at h
      have h2 : m < r.idxOf z + 1 := h
      cases m with
      | zero => exact q (Option.some.inj hz)
      | succ m => exact idx_before (ns := r) (Nat.lt_of_succ_lt_succ h2) hz rfl
theorem idx_facts {ns : List Str} {n : Str} (h : n ∈ ns) : ns[ns.idxOf n]? = some n ∧ ns.idxOf n < ns.length ∧ ∀ m z, m < ns.idxOf n → ns[m]? = some z → z ≠ n := by
  have h1 : ns.idxOf n < ns.length := List.idxOf_lt_length_of_mem h
  exact ⟨by rw [List.getElem?_eq_getElem h1, List.getElem_idxOf h1], h1, fun m z hm hz => idx_before hm hz⟩
theorem sc_Rd_fill : FnScope ["self", "words", "at"] ["self", "words"] (defScope s_Reading_take_fill) := ⟨rfl, rfl, rfl, by decide +kernel, rfl, by decide +kernel, by decide +kernel⟩
theorem ok_Rd_fill (T : Tx W) : Fn W CX0 6 (ca "Reading" "take_fill" W.K) ["self", "words"] (spTk W.K (fun d => d.m = 9) tkFill) := by
  obtain ⟨fd, F⟩ := T.d_Reading_take_fill
  obtain ⟨t2, c2⟩ := T.c_ZEROS
  obtain ⟨t3, c3⟩ := T.c_SIGN
  refine ⟨⟨fd, ?_, F.bindsN fun _ _ _ _ _ _ us hl => match us, hl with | [_, _], _ => rfl⟩, F.kp⟩
  refine F.ok sc_Rd_fill (fun vs H Q E h => ?_) (fun cdv A outer s H vs Q E hr h => ?_)
  · obtain ⟨a, p, B, d, ws, rfl, _⟩ := h
    rfl
  · obtain ⟨a, q, B, d, ws, rfl, hR, hq, hw, hne, m9, kN, kS⟩ := h
    refine ⟨_, PSs.nox (pss_cons (ps_if (PW.pt (pw_or (pt_cmpR op_ne (pe_callB call_len_seq (by rfl) T.f_len (by decide +kernel) (pa_cons (pv 1) pa_nil)) pe_int (nomark _))
          (pw_or (pt_cmpR op_ne (pe_ix ix_list (pv 1) pe_int (fun _ _ => rfl)) pe_str (nomark _))
          (pw_or1 (pt_cmpR op_notIn_seq (pe_ix ix_list (pv 1) pe_int (fun _ _ => rfl)) (pe_fld (pv 0) rfl) rfl))))) (pss_one (ps_ret pe_bl)) pss_nil)
      (pss_cons (ps_set (i := 2) sc_Rd_fill.nd rfl (Or.inl rfl) (pe_bm PySem.F.plainAttrs_list PySem.F.slot_list_index PySem.F.type_list_index mt_index (pe_fld (pv 0) rfl) (pa_cons (pe_ix ix_list (pv 1) pe_int (fun _ _ => rfl)) pa_nil)))
      (pss_cons (ps_if (PW.pt (pw_or (pt_cmpR op_le (pv 2) (pe_fld (pv 0) rfl) (nomark _))
          (pw_or (pt_cmpR op_notIn_seq (pe_ix ix_list (pv 1) pe_int (fun _ _ => rfl)) (pe_tup (pa_cons (pe_glob (v := .str ZEROS) (by rfl) c2 ⟨_, rfl⟩) (pa_cons (pe_glob (v := .str SIGN) (by rfl) c3 ⟨_, rfl⟩) pa_nil))) rfl)
          (pw_or1 (pt_not (pt_val (u_call (ok_is_extent_word T) T.g_is_extent_word hr (pa_cons (pe_ix ix_list (pv 1) pe_int (fun _ _ => rfl)) pa_nil)))))))) (pss_one (ps_ret pe_bl)) pss_nil)
      (pss_cons (ps_dput (hu_of hr) (pe_fld (pv 0) rfl) (pe_ix ix_list (pv 1) pe_int (fun _ _ => rfl)) (u_make (ok_Fill_init T) T.mk_Fill T.g_Fill hr (pa_cons (pe_ix ix_list (pv 1) pe_int (fun _ _ => rfl)) (pa_cons (pe_callTy call_int_str (by rfl) T.f_int (by decide +kernel) (pa_cons (pe_ix ix_list (pv 1) pe_int (fun _ _ => rfl)) pa_nil)) pa_nil))) rfl)
      (pss_cons (ps_fld (pv 0) (pv 2) rfl)
      (pss_one (ps_ret pe_bl))))))), ?_⟩
    have hqH := hR.bh _ _ hq
    obtain ⟨⟨dx, p, n, o, f, as, es, h1, h2, h3, h4, h5, ⟨b1, b2, b3, b4, b5⟩, ⟨pn, of_⟩, hkk, hf, he⟩, bh, ok⟩ := id hR
    refine ⟨_, rfl, q, _, rfl, .inl (SqL.of hqH), rfl, _, rfl, ?_⟩
    refine iteB (c := !_) (fun z1 => kN H ?_ bh) (fun z1 => ?_)
    · have h2 : ¬ ws.length = 4 := fun e => by
        have e2 : ((ws.map V.str).length : Int) = 4 := by rw [List.length_map, e]; rfl
        rw [decide_eq_true (by rw [e2])] at z1
        cases z1
      unfold tkFill
      split
      · exact absurd rfl h2
      · rfl
    · obtain ⟨wa, nm, w, x, rfl⟩ : ∃ a b c d, ws = [a, b, c, d] := by
        have h2 := nf z1
        rw [eI] at h2
        have h3 := of_decide_eq_true h2
        rw [List.length_map] at h3
        have h4 : ws.length = 4 := by omega
        match ws, h4 with
        | [a, b, c, d], _ => exact ⟨a, b, c, d, rfl⟩
      have no : ¬ (wa = Str.ofString "fill" ∧ nm ∈ d.names ∧ d.last < idxI d.names nm ∧ (w = ZEROS ∨ w = SIGN) ∧ isExt x = true) → tkFill [wa, nm, w, x] d = none := fun h => by
        unfold tkFill
        dsimp only
        exact if_neg h
      refine ⟨_, rfl, q, _, _, _, rfl, rfl, SqL.of hqH, rfl, rfl, _, rfl, ?_⟩
      rw [eS]
      refine iteB (c := !_) (fun z2 => kN H (no ?_) bh) (fun z2 => ?_)
      · rintro ⟨u, _⟩
        rw [decide_eq_true u] at z2
        cases z2
      · have ew : wa = Str.ofString "fill" := of_decide_eq_true (nf z2)
        refine ⟨_, rfl, q, _, _, _, rfl, rfl, SqL.of hqH, rfl, _, rfl, a, _, dx, _, _, rfl, h1, T.cls_Reading, nfR T (by decide), rfl, n, _, rfl, .inl (SqL.of h3), rfl, flat_strs _, ?_⟩
        show ∃ k, V.bl (!inV (.str nm) (d.names.map V.str)) = .bl k ∧ _
        rw [inV_strs]
        refine ⟨_, rfl, ?_⟩
        refine iteB (c := !_) (fun z3 => kN H (no ?_) bh) (fun z3 => ?_)
        · rintro ⟨_, u, _⟩
          rw [decide_eq_true u] at z3
          cases z3
        · have hin : nm ∈ d.names := of_decide_eq_true (nf z3)
          obtain ⟨i1, i2, i3⟩ := idx_facts hin
          have hj : (d.names.map V.str)[d.names.idxOf nm]? = some (V.str nm) := by
            rw [List.getElem?_map, i1]
            rfl
          refine ⟨_, rfl, a, _, dx, _, _, rfl, h1, T.cls_Reading, nfR T (by decide), rfl, .inl ⟨rfl, _, SqL.of h3⟩, _, rfl, q, _, _, V.str nm, rfl, rfl, SqL.of hqH, rfl, n, _, V.str nm, d.names.idxOf nm, V.str nm, rfl, rfl, SqL.of h3, rfl, flat_strs _, hj, ?_, fun m z hm hz => ?_, ?_⟩
          · rw [eqV_str, decide_eq_true rfl]
          · rw [List.getElem?_map] at hz
            cases e : d.names[m]? with
            | none =>
              rw [e] at hz
              cases hz
            | some z' =>
              rw [e] at hz
              obtain rfl : V.str z' = z := Option.some.inj hz
              rw [eqV_str]
              exact decide_eq_false (i3 m z' hm e)
          · refine ⟨_, rfl, _, rfl, a, _, dx, _, _, rfl, h1, T.cls_Reading, nfR T (by decide), rfl, _, _, rfl, rfl, _, rfl, ?_⟩
            refine iteB (fun z4 => kN H (no ?_) bh) (fun z4 => ?_)
            · rintro ⟨_, _, u, _⟩
              have v := of_decide_eq_true z4
              unfold idxI at u
              omega
            · have hlt : d.last < idxI d.names nm := by
                have v := of_decide_eq_false z4
                unfold idxI
                omega
              refine ⟨_, rfl, q, _, _, _, rfl, rfl, SqL.of hqH, rfl, by show 2 ≤ sizeLine; decide, fun t ht => ?_⟩
              have e1 : Ex H (upd H t (.tup [V.str ZEROS, .str SIGN])) := (Ex.refl H).more ht
              refine ⟨t, _, rfl, .inr (SqT.of upd_same), rfl, rfl, ?_⟩
              show ∃ k, V.bl (!inV (.str w) ([ZEROS, SIGN].map V.str)) = .bl k ∧ _
              rw [inV_strs]
              refine ⟨_, rfl, ?_⟩
              refine iteB (c := !_) (fun z5 => kN _ (no ?_) (bh.trans e1)) (fun z5 => ?_)
              · rintro ⟨_, _, _, u, _⟩
                rw [decide_eq_true (show w ∈ [ZEROS, SIGN] by simpa using u)] at z5
                cases z5
              · have hwd : w = ZEROS ∨ w = SIGN := by simpa using of_decide_eq_true (nf z5)
                generalize upd H t (.tup [V.str ZEROS, .str SIGN]) = H1 at e1 ⊢
                have hq1 := e1 _ _ hqH
                refine ⟨_, rfl, q, _, _, _, rfl, rfl, SqL.of hq1, rfl, x, rfl, (hw x (by simp)).1, fun H2 e2 => ⟨_, rfl, ?_⟩⟩
                have e3 := e1.trans e2
                refine iteB (c := !_) (fun z6 => kN H2 (no ?_) (bh.trans e3)) (fun z6 => ?_)
                · rintro ⟨_, _, _, _, u⟩
                  rw [u] at z6
                  cases z6
                · have hx := nf z6
                  obtain ⟨x1, x2, x3, x4⟩ := ext_facts hx
                  have hq2 := e3 _ _ hqH
                  refine ⟨_, rfl, q, _, _, V.str w, rfl, rfl, SqL.of hq2, rfl, _, rfl, q, _, _, V.str x, rfl, rfl, SqL.of hq2, rfl, x, _, rfl, int_of_dec x1 (by omega), by omega, fun fa fx nfa nfx ne => ?_⟩
                  refine ⟨fa, fx, ⟨w, .int (valT x)⟩, rfl, .inr ⟨hwd, _, rfl, x3, x4⟩, upd_same, fun H8 e8 => ⟨rfl, ?_⟩⟩
                  have e4 : Ex H (upd H8 fa (.ins (ga W.K "Fill") fx (fillF ⟨w, .int (valT x)⟩))) := fun u v hu => by
                    have hu2 := e3 u v hu
                    have ua := ne_of_none hu2 nfa
                    rw [upd_ne ua]
                    refine e8 u v ?_
                    rw [upd_ne ua, upd_ne (ne_of_none hu2 nfx)]
                    exact hu2
                  have hfa := upd_same (H := H8) (a := fa) (o := .ins (ga W.K "Fill") fx (fillF ⟨w, .int (valT x)⟩))
                  generalize upd H8 fa (.ins (ga W.K "Fill") fx (fillF ⟨w, .int (valT x)⟩)) = H3 at e4 hfa ⊢
                  have k1 := e4 _ _ h1
                  have k5 := e4 _ _ h5
                  have esm : ∀ e ∈ es, e.1 ≠ nm := fun e hm z => by
                    have hmem : (e.1, e.2.2) ∈ d.fl := by
                      rw [← he]
                      exact List.mem_map.mpr ⟨e, hm, rfl⟩
                    have := (ok.flm _ hmem).2.2
                    dsimp only at this
                    rw [z] at this
                    omega
                  have lfl : es.length = d.fl.length := by rw [← he, List.length_map]
                  have lz : es.length < 100 := by
                    have := ok.fln
                    have := ok.hi
                    have := ok.few
                    omega
                  refine ⟨_, rfl, a, _, dx, _, _, rfl, k1, T.cls_Reading, nfR T (by decide), rfl, _, rfl, q, _, _, V.str nm, rfl, rfl, SqL.of (e4 _ _ hqH), rfl, f, _, rfl, DPut.k (k := Sum.inr nm) k5 (by
                    unfold entK
                    rw [List.length_map, sizeLine_eq]
                    omega), ?_⟩
                  rw [putK_new _ (ent_none esm)]
                  have ep : entK es ++ [((Sum.inr nm : Key), V.ref fa)] = entK (es ++ [(nm, fa, ⟨w, .int (valT x)⟩)]) := by
                    unfold entK
                    rw [List.map_append]
                    rfl
                  rw [ep]
                  have af : a ≠ f := ne_of h1 h5 (by intro z; cases z)
                  refine ⟨_, rfl, _, rfl, a, _, dx, _, rfl, (upd_ne af).trans k1, T.cls_Reading, nfR T (by decide), (by show 5 < 1000; decide), ?_⟩
                  have up : ∀ {u : Addr} {v : HO}, H3 u = some v → u ≠ a → u ≠ f → upd (upd H3 f (.dK (entK (es ++ [(nm, fa, ⟨w, .int (valT x)⟩)])))) a (.ins (ga W.K "Reading") dx (putF "own_last" (.int (d.names.idxOf nm : Nat)) (rdF p n o f d.last))) u = some v := fun {u v} h za zf => by
                    rw [upd_ne za, upd_ne zf]
                    exact h
                  have g2 := e4 _ _ h2
                  have g3 := e4 _ _ h3
                  have g4 := e4 _ _ h4
                  refine kS _ (d.fill nm w (valT x)) (by
                    unfold tkFill
                    dsimp only
                    exact if_pos ⟨ew, hin, hlt, hwd, hx⟩) ⟨⟨dx, p, n, o, f, as, es ++ [(nm, fa, ⟨w, .int (valT x)⟩)], ?_, up g2 (ne_of g2 k1 (by intro z; cases z)) (ne_of g2 k5 (by intro z; cases z)), up g3 (ne_of g3 k1 (by intro z; cases z)) (ne_of g3 k5 (by intro z; cases z)), up g4 (ne_of g4 k1 (by intro z; cases z)) of_, ?_, ⟨b1, b2, b3, b4, b5⟩, ⟨pn, of_⟩, ?_, fun e h => ?_, ?_⟩, ((bh.trans e4).put b5).put b1, ?_⟩
                  · rw [upd_same]
                    rfl
                  · rw [upd_ne af.symm, upd_same]
                  · exact paired_mono (fun _ _ ⟨d', h⟩ => ⟨d', up (e4 _ _ h) (ne_of (e4 _ _ h) k1 (by
                      intro z
                      injection z with _ _ z
                      exact kindF_ne z)) (ne_of (e4 _ _ h) k5 (by intro z; cases z))⟩) hkk
                  · rcases List.mem_append.mp h with h | h
                    · obtain ⟨df, h6⟩ := hf e h
                      exact ⟨df, up (e4 _ _ h6) (ne_of (e4 _ _ h6) k1 (by
                        intro z
                        injection z with _ _ z
                        exact fillF_ne z)) (ne_of (e4 _ _ h6) k5 (by intro z; cases z))⟩
                    · rw [List.mem_singleton.mp h]
                      exact ⟨fx, up hfa (ne_of hfa k1 (by
                        intro z
                        injection z with _ _ z
                        exact fillF_ne z)) (ne_of hfa k5 (by intro z; cases z))⟩
                  · rw [List.map_append, he]
                    rfl
                  · have li : (d.names.length : Int) = d.ks.length := by
                      unfold RdD.names
                      rw [List.length_map]
                    have hidx : idxI d.names nm < d.ks.length := by
                      unfold idxI
                      omega
                    have hi0 : (0 : Int) ≤ idxI d.names nm := by
                      unfold idxI
                      omega
                    refine ⟨ok.few, ok.nd, ok.kok, .inr ⟨by show 2 ≤ d.m; rw [show d.m = 9 from m9]; decide, by show d.m ≤ 9; rw [show d.m = 9 from m9]; decide⟩, ok.some_, ok.cok, by show -1 ≤ idxI d.names nm; omega, hidx, ?_, ?_, fun z => absurd (show d.m = 9 from m9) z⟩
                    · show ((d.fl ++ [(nm, (⟨w, .int (valT x)⟩ : FillD))]).length : Int) ≤ idxI d.names nm + 1
                      rw [List.length_append]
                      have := ok.fln
                      show ((d.fl.length + 1 : Nat) : Int) ≤ _
                      omega
                    · intro e h
                      rcases List.mem_append.mp h with h | h
                      · obtain ⟨y1, y2, y3⟩ := ok.flm e h
                        exact ⟨y1, y2, by show idxI d.names e.1 ≤ idxI d.names nm; omega⟩
                      · rw [List.mem_singleton.mp h]
                        exact ⟨hin, .inr ⟨hwd, _, rfl, x3, x4⟩, by show idxI d.names nm ≤ idxI d.names nm; omega⟩
end
end U
/-! ## texts.py: Reading.take -/
namespace U
open PySem PySem.Spec PyProof.Rows L2 StX
section
variable {W : Wd}
def wordsOf (z : Str) : List Str := Txt.split z SP
def rdTake (ws : List Str) (d : RdD) : Option RdD :=
  if d.m = 9 then tkFill ws d else if d.m ≠ 0 then tkChoice ws d else if ws.head? = some (Str.ofString "kind") then tkKind ws d else tkRegs ws d
theorem sc_Rd_take : FnScope ["self", "line", "words"] ["self", "line"] (defScope s_Reading_take) := ⟨rfl, rfl, rfl, by decide +kernel, rfl, by decide +kernel, by decide +kernel⟩
def sp_Rd_take (K : Fg) : Sp := fun vs H Q _ => ∃ (a : Addr) (B : Hp) (d : RdD) (z : Str), vs = [.ref a, .str z] ∧ RdAt K B H a d ∧ z.length ≤ 1000000 ∧ PyData.strOk z = true ∧
  (∀ H', rdTake (wordsOf z) d = none → Ex B H' → Q (.bl false) H') ∧ ∀ H' d', rdTake (wordsOf z) d = some d' → RdAt K B H' a d' → Q (.bl true) H'
theorem ok_Rd_take (T : Tx W) : Fn W CX0 7 (ca "Reading" "take" W.K) ["self", "line"] (sp_Rd_take W.K) := by
  obtain ⟨fd, F⟩ := T.d_Reading_take
  refine ⟨⟨fd, ?_, F.bindsN fun _ _ _ _ _ _ us hl => match us, hl with | [_, _], _ => rfl⟩, F.kp⟩
  refine F.ok sc_Rd_take (fun vs H Q E h => ?_) (fun cdv A outer s H vs Q E hr h => ?_)
  · obtain ⟨a, B, d, z, rfl, _⟩ := h
    rfl
  · obtain ⟨a, B, d, z, rfl, hR, hz, zok, kN, kS⟩ := h
    refine ⟨_, PSs.nox (pss_cons (ps_set (i := 2) sc_Rd_take.nd rfl (Or.inl rfl) (pe_bm PySem.F.plainAttrs_str PySem.F.slot_str_split PySem.F.type_str_split mt_split (pv 1) (pa_cons pe_str pa_nil)))
      (pss_cons (ps_if (pt_val (u_meth0 (ok_Rd_done T) T.cls_Reading T.m_Reading_is_done hr (pv 0))) (pss_one (ps_ret (u_meth (ok_Rd_fill T) T.cls_Reading T.m_Reading_take_fill hr (pv 0) (pa_cons (pv 2) pa_nil)))) pss_nil)
      (pss_cons (ps_if (pt_cmpR (op_ne_dict0 hr.units0) (pe_fld (pv 0) rfl) pe_dnewK (nomark _)) (pss_one (ps_ret (u_meth (ok_Rd_choice T) T.cls_Reading T.m_Reading_take_choice hr (pv 0) (pa_cons (pv 2) pa_nil)))) pss_nil)
      (pss_cons (ps_if (pt_cmpR op_eq (pe_ix ix_list (pv 2) pe_int (fun _ _ => rfl)) pe_str (nomark _)) (pss_one (ps_ret (u_meth (ok_Rd_kind T) T.cls_Reading T.m_Reading_take_kind hr (pv 0) (pa_cons (pv 2) pa_nil)))) pss_nil)
      (pss_one (ps_ret (u_meth (ok_Rd_regs T) T.cls_Reading T.m_Reading_take_registers hr (pv 0) (pa_cons (pv 2) pa_nil)))))))), ?_⟩
    refine ⟨_, rfl, rfl, z, SP, rfl, rfl, rfl, by rw [sizeLine_eq]; omega, fun q hq => ?_⟩
    have hR2 := hR.base (u := .lst ((wordsOf z).map V.str)) hq
    have eB : Ex B (upd B q (.lst ((wordsOf z).map V.str))) := Ex.ext (hR.bh.none hq)
    have hq2 := upd_same (H := B) (a := q) (o := .lst ((wordsOf z).map V.str))
    have hw : ∀ w ∈ wordsOf z, w.length ≤ 16777216 ∧ PyData.strOk w = true := fun w h => ⟨by have := cut_len sep_SP z w h; omega, cut_ok sep_SP z zok w h⟩
    have hne : wordsOf z ≠ [] := cut_ne sep_SP z
    change tSeq _ _ _ _ (upd H q (.lst ((wordsOf z).map V.str)))
    generalize upd H q (.lst ((wordsOf z).map V.str)) = H1 at hR2 ⊢
    generalize upd B q (.lst ((wordsOf z).map V.str)) = B1 at hR2 eB hq2 ⊢
    generalize wordsOf z = ws at *
    have fin : ∀ {H2 : Hp} {st : List Str → RdD → Option RdD} {pre : RdD → Prop}, pre d → rdTake ws d = st ws d → RdAt W.K B1 H2 a d → spTk W.K pre st [.ref a, .ref q] H2 Q E0 := fun hp e r => ⟨a, q, B1, d, ws, rfl, r, hq2, hw, hne, hp, fun H' h e' => kN H' (by rw [e]; exact h) (eB.trans e'), fun H' d' h r' => kS H' d' (by rw [e]; exact h) (r'.weak eB)⟩
    obtain ⟨⟨dx, p, n, o, f, as, es, h1, h2, h3, h4, h5, bb, hd, hkk, hf, he⟩, bh, ok⟩ := id hR2
    refine ⟨_, rfl, a, dx, _, rfl, h1, rfl, a, B1, d, rfl, hR2, _, rfl, ?_⟩
    refine iteB (fun z1 => ?_) (fun z1 => ?_)
    · have m9 := of_decide_eq_true z1
      exact ⟨_, rfl, a, dx, _, rfl, h1, rfl, _, rfl, fin m9 (by unfold rdTake; rw [if_pos m9]) hR2⟩
    · have m9 := of_decide_eq_false z1
      refine ⟨_, rfl, a, _, dx, _, _, rfl, h1, T.cls_Reading, nfR T (by decide), rfl, fun e0 he0 => ?_⟩
      have e1 : Ex H1 (upd H1 e0 (.dK [])) := (Ex.refl _).more he0
      refine ⟨o, e0, _, rfl, rfl, e1 _ _ h4, upd_same, _, rfl, ?_⟩
      have hR3 := hR2.more e1
      generalize upd H1 e0 (.dK []) = H2 at e1 hR3 ⊢
      have g1 := e1 _ _ h1
      refine iteB (c := !_) (fun z2 => ?_) (fun z2 => ?_)
      · have m0 : d.m ≠ 0 := fun e => by
          rw [e] at z2
          cases z2
        have ml := m9_le ok
        rcases ok.m9 with z3 | z3
        · exact absurd z3 m0
        · exact ⟨_, rfl, a, dx, _, rfl, g1, rfl, _, rfl, fin ⟨z3.1, by omega⟩ (by unfold rdTake; rw [if_neg m9, if_pos m0]) hR3⟩
      · have m0 : d.m = 0 := by
          have z3 := nf z2
          have z4 : optK d.m d.c = [] := List.isEmpty_iff.mp z3
          have z5 := optK_len d.c (m9_le ok)
          rw [z4] at z5
          exact z5.symm
        cases ws with
        | nil => exact absurd rfl hne
        | cons w0 wr =>
          refine ⟨_, rfl, q, _, _, V.str w0, rfl, rfl, SqL.of (hR3.bh _ _ hq2), atI_zero, rfl, _, rfl, ?_⟩
          rw [eS]
          refine iteB (fun z3 => ?_) (fun z3 => ?_)
          · have e := of_decide_eq_true z3
            exact ⟨_, rfl, a, dx, _, rfl, g1, rfl, _, rfl, fin m0 (by unfold rdTake; rw [if_neg m9, if_neg (fun z => z m0), if_pos (by rw [← e]; rfl)]) hR3⟩
          · have e := of_decide_eq_false z3
            exact ⟨_, rfl, a, dx, _, rfl, g1, rfl, _, rfl, fin m0 (by unfold rdTake; rw [if_neg m9, if_neg (fun z => z m0), if_neg (show ¬ (w0 :: wr).head? = some (Str.ofString "kind") from fun z => e (Option.some.inj z))]) hR3⟩
end
end U
/-! ## texts.py: Reading.made_convention -/
namespace U
open PySem PySem.Spec PyProof.Rows L2 StX
section
variable {W : Wd}
def toldL (fl : List (Str × FillD)) (n : Str) : FillD := match fl.find? (fun e => decide (e.1 = n)) with
  | some e => e.2
  | none => ⟨FREE, .non⟩
theorem toldF_L (n : Str) : ∀ es : List Ent, toldF es n = toldL (es.map fun e => (e.1, e.2.2)) n
  | [] => rfl
  | e :: r => by
    unfold toldF toldL
    rw [List.map_cons, List.find?_cons, List.find?_cons]
    by_cases h : e.1 = n
    · rw [show decide (e.1 = n) = true from decide_eq_true h]
    · rw [show decide (e.1 = n) = false from decide_eq_false h]
      exact toldF_L n r
def rdConv (d : RdD) : ConvD := { d.c with fill := toldL d.fl }
theorem sc_Rd_made : FnScope ["self", "kinds", "book", "options"] ["self"] (defScope s_Reading_made_convention) := ⟨rfl, rfl, rfl, by decide +kernel, rfl, by decide +kernel, by decide +kernel⟩
def sp_Rd_made (K : Fg) : Sp := fun vs H Q _ => ∃ (a : Addr) (B : Hp) (d : RdD), vs = [.ref a] ∧ RdAt K B H a d ∧ d.m = 9 ∧ ∀ H' x b as, Ex B H' → ConvAt K H' x b as d.ks (rdConv d) → Q (.ref x) H'
theorem ok_Rd_made (T : Tx W) : Fn W CX0 10 (ca "Reading" "made_convention" W.K) ["self"] (sp_Rd_made W.K) := by
  obtain ⟨fd, F⟩ := T.d_Reading_made_convention
  obtain ⟨fdK, FK, ⟨g, gV, hKB, rfl⟩, _⟩ := ok_Conv_all T
  refine ⟨⟨fd, ?_, F.bindsN fun _ _ _ _ _ _ us hl => match us, hl with | [_], _ => rfl⟩, F.kp⟩
  refine F.ok sc_Rd_made (fun vs H Q E h => ?_) (fun cdv A outer s H vs Q E hr h => ?_)
  · obtain ⟨a, B, d, rfl, _⟩ := h
    rfl
  · obtain ⟨a, B, d, rfl, hR, m9, q⟩ := h
    refine ⟨_, PSs.nox (pss_cons (ps_set (i := 1) sc_Rd_made.nd rfl (Or.inl rfl) (pe_fld (pv 0) rfl))
      (pss_cons (ps_set (i := 2) sc_Rd_made.nd rfl (Or.inl rfl) (pe_makeS T.mk_Book (ok_Book_init T) (hr.mono (by decide)) (by rfl) T.g_Book pass0 (pv 1)))
      (pss_cons (ps_set (i := 3) sc_Rd_made.nd rfl (Or.inl rfl) (pe_dstar (pe_fld (pv 0) rfl) pe_str (pe_fld (pv 0) rfl)))
      (pss_one (ps_ret (pe_makeKK T.mk_Convention FK (hr.mono (by decide)) (by rfl) T.g_Convention hKB pass0 (pa_cons (pv 2) pa_nil) (pv 3))))))), ?_⟩
    obtain ⟨⟨dx, p, n, o, f, as, es, h1, h2, h3, h4, h5, ⟨b1, b2, b3, b4, b5⟩, ⟨pn, of_⟩, hkk, hf, he⟩, bh, ok⟩ := id hR
    rw [m9] at h4
    have kne : d.ks ≠ [] := ok.some_ (by rw [m9]; decide)
    refine ⟨_, rfl, a, _, dx, _, _, rfl, h1, T.cls_Reading, nfR T (by decide), rfl, ?_⟩
    refine ⟨_, rfl, p, _, rfl, .inr (SqL.of h2), fun x dx2 nx ndx ne => ?_⟩
    have up : ∀ {c : Addr} {v : HO}, H c = some v → upd (upd H dx2 (.own x)) x (.ins (ga W.K "Book") dx2 []) c = some v := fun {c v} h => by
      rw [upd_ne (ne_of_none h nx), upd_ne (ne_of_none h ndx)]
      exact h
    refine ⟨x, dx2, as, d.ks, rfl, upd_same, paired_mono (fun c k ⟨dk, h⟩ => ⟨dk, up h⟩) hkk, ok.few, kne, ok.nd, ok.kok, fun H1 e hB => ⟨rfl, ?_⟩⟩
    have e1 : Ex H H1 := fun c v h => e c v (ne_of_none h nx) (up h)
    refine fun dd hdd => ?_
    have e2 : Ex H1 (upd H1 dd (.dK [])) := (Ex.refl _).more hdd
    have e12 := e1.trans e2
    have odd_ : o ≠ dd := ne_of_none (e1 _ _ h4) hdd
    refine ⟨_, rfl, a, _, dx, _, _, rfl, e12 _ _ h1, T.cls_Reading, nfR T (by decide), rfl, o, _, rfl, odd_, .inl (e12 _ _ h4), by rw [optK_len _ (by decide)]; decide, upd_same, ?_⟩
    rw [upd_upd]
    have e3 : Ex H1 (upd H1 dd (.dK (optK 9 d.c))) := (Ex.refl _).more hdd
    have e13 := e1.trans e3
    refine ⟨_, rfl, a, _, dx, _, _, rfl, e13 _ _ h1, T.cls_Reading, nfR T (by decide), rfl, Sum.inr (Str.ofString "fills"), rfl, upd_same, ?_⟩
    rw [upd_upd, show putK (optK 9 d.c) (Sum.inr (Str.ofString "fills")) (V.ref f) = (kw10.map Sum.inr).zip (valsC (rdConv d) (.ref f)) by kernel_rfl]
    have e4 : Ex H1 (upd H1 dd (.dK ((kw10.map Sum.inr).zip (valsC (rdConv d) (.ref f))))) := (Ex.refl _).more hdd
    have hd4 := upd_same (H := H1) (a := dd) (o := .dK ((kw10.map Sum.inr).zip (valsC (rdConv d) (.ref f))))
    have e14 := e1.trans e4
    have hB4 := hB.ex_mono e4
    generalize upd H1 dd (.dK ((kw10.map Sum.inr).zip (valsC (rdConv d) (.ref f)))) = H2 at e14 hd4 hB4 ⊢
    refine ⟨_, rfl, _, rfl, dd, _, rfl, .inl hd4, rfl, rfl, fun y dy ny ndy ney => ?_⟩
    have e5 : Ex H2 (upd (upd H2 dy (.own y)) y (.ins (ga W.K "Convention") dy [])) := ((Ex.refl _).more ndy).more (by rw [upd_ne ney.symm]; exact ny)
    have hlen : es.length ≤ 5 := by
      have l1 : es.length = d.fl.length := by rw [← he, List.length_map]
      have := ok.fln
      have := ok.hi
      have := ok.few
      omega
    have hmem : ∀ e ∈ es, (e.1, e.2.2) ∈ d.fl := fun e hm => by
      rw [← he]
      exact List.mem_map.mpr ⟨e, hm, rfl⟩
    refine ⟨y, dy, x, as, d.ks, rdConv d, .ref f, es, rfl, upd_same, hB4.ex_mono e5, ⟨ok.cok.wholes, ok.cok.floats, ok.cok.doubles, ok.cok.slot, ok.cok.home, ok.cok.tail⟩, .inr ⟨f, rfl, ?_⟩, fun e h => (ok.flm _ (hmem e h)).1, hlen, fun e h => (ok.flm _ (hmem e h)).2.1, fun k hk => ?_, fun H' e hC' => ⟨rfl, q H' y x as (fun w v h => ?_) hC'⟩⟩
    · exact FillsAt.ex_mono (⟨e14 _ _ h5, fun e h => let ⟨df, h6⟩ := hf e h; ⟨df, e14 _ _ h6⟩⟩ : FillsAt W.K H2 f es) e5
    · show toldL d.fl k.name = toldF es k.name
      rw [toldF_L, he]
    · have h2 := e14 _ _ (bh _ _ h)
      exact e w v (ne_of_none h2 ny) (e5 _ _ h2)
end
end U
/-! ## texts.py: read_convention -/
namespace U
open PySem PySem.Spec PyProof.Rows L2 StX
section
variable {W : Wd}
/-! ### InvalidText -/
theorem sc_IT_init : FnScope ["self", "line"] ["self", "line"] (defScope s_InvalidText___init__) := ⟨rfl, rfl, rfl, by decide +kernel, rfl, by decide +kernel, by decide +kernel⟩
def sp_IT_init (K : Fg) : Sp := fun vs H Q _ => ∃ (a : Addr) (v : V), vs = [.ref a, v] ∧ H a = some (exo a (ga K "InvalidText") none) ∧ ∀ dx, H dx = none → dx ≠ a → Q .non (upd (upd H dx (exd dx [("line", v)])) a (exo a (ga K "InvalidText") (some dx)))
theorem ok_IT_init (T : Tx W) : Fn W CX0 1 (ca "InvalidText" "__init__" W.K) ["self", "line"] (sp_IT_init W.K) := by
  obtain ⟨fd, F⟩ := T.d_InvalidText___init__
  refine ⟨⟨fd, ?_, F.bindsN fun _ _ _ _ _ _ us hl => match us, hl with | [_, _], _ => rfl⟩, F.kp⟩
  refine F.ok sc_IT_init (fun vs H Q E h => ?_) (fun cdv A outer s H vs Q E hr h => ?_)
  · obtain ⟨a, v, rfl, _⟩ := h
    rfl
  · obtain ⟨a, v, rfl, ha, q⟩ := h
    refine ⟨_, PSs.nox (pss_cons (ps_expr (pe_baseinit (by rfl) T.g_CallError T.bse_CallError (pa_cons (pv 0) (pa_cons pe_str pa_nil)))) (pss_one (ps_ost (pv 0) (pv 1)))), ?_⟩
    exact ⟨_, rfl, a, _, _, rfl, by show 1 ≤ 1000; decide, T.oex_InvalidText, ha, _, rfl, _, rfl, a, _, rfl, T.oex_InvalidText, T.na_InvalidText, .inl ⟨ha, q⟩⟩
/-! ### read_convention -/
def rdRun : RdD → Nat → List (List Str) → Except Nat RdD
  | d, _, [] => .ok d
  | d, k, ws :: r => match rdTake ws d with
    | none => .error (k + 1)
    | some d' => rdRun d' (k + 1) r
def linesOf (z : Str) : List Str := Txt.split z LF
def readText (z : Str) : Except Nat RdD := match rdRun rd0 0 ((linesOf z).dropLast.map wordsOf) with
  | .error n => .error n
  | .ok d => if (linesOf z).getLast? = some Str.empty ∧ d.m = 9 then .ok d else .error (linesOf z).length
theorem rdRun_snoc : ∀ (l : List (List Str)) (d d' : RdD) (k : Nat) (r : List (List Str)), rdRun d k l = .ok d' → rdRun d k (l ++ r) = rdRun d' (k + l.length) r
  | [], d, d', k, r, h => by
    cases h
    rfl
  | ws :: l, d, d', k, r, h => by
    rw [List.cons_append]
    have h2 : (match rdTake ws d with
      | none => (.error (k + 1) : Except Nat RdD)
      | some d' => rdRun d' (k + 1) l) = .ok d' := h
    show (match rdTake ws d with
      | none => (.error (k + 1) : Except Nat RdD)
      | some d' => rdRun d' (k + 1) (l ++ r)) = _
    cases e : rdTake ws d with
    | none =>
      rw [e] at h2
      cases h2
    | some d2 =>
      rw [e] at h2
      have ih := rdRun_snoc l d2 d' (k + 1) r h2
      rw [List.length_cons, show k + (l.length + 1) = k + 1 + l.length by omega]
      exact ih
/-- wrong at line n -/
def Wrong (K : Fg) (H : Hp) (E : XK) (n : Int) : Prop := ∀ H' d, Ex H H' → H d = none → H' d = some (.xd [("line", .int n)]) → E (.ref (ga K "InvalidText")) (some d) H'
def sp_read (K : Fg) : Sp := fun vs H Q E => ∃ v, vs = [v] ∧ ((∃ z, v = .str z ∧ z.length ≤ 900000 ∧ PyData.strOk z = true ∧ (∀ n : Nat, readText z = .error n → Wrong K H E n) ∧ ∀ d, readText z = .ok d → ∀ H' x b as, Ex H H' → ConvAt K H' x b as d.ks (rdConv d) → Q (.ref x) H') ∨
  ∃ c, TyX K H v c ∧ PySem.W.kitOne K c (.type "str") = some false ∧ Wrong K H E 0)
theorem sc_read : FnScope ["text", "lines", "reading", "number", "line"] ["text"] (defScope s_read_convention) := ⟨rfl, rfl, rfl, by decide +kernel, rfl, by decide +kernel, by decide +kernel⟩
theorem cut_last (xs : List V) : cutV xs none (some (-1)) = xs.dropLast := by
  unfold cutV
  rw [HT.sIx_none, List.drop_zero, List.dropLast_eq_take]
  have e : HT.sIx xs.length xs.length (some (-1)) = xs.length - 1 := by
    show (if (-1 : Int) < 0 then ((-1 : Int) + (xs.length : Int)).toNat else min (-1 : Int).toNat xs.length) = _
    rw [if_pos (by decide)]
    omega
  rw [e]
  rfl
theorem wrong_go {K : Fg} {H H1 : Hp} {E : XK} {n : Int} (w : Wrong K H E n) (e : Ex H H1) : ∀ a, H1 a = none → sp_IT_init K [.ref a, .int n] (upd H1 a (exo a (ga K "InvalidText") none)) (fun v H2 => v = .non ∧ ∃ (d : Addr) (fs : List (Str × V)), H2 a = some (exo a (ga K "InvalidText") (some d)) ∧ H2 d = some (exd d fs) ∧ H1 d = none ∧ E (.ref (ga K "InvalidText")) (some d) (upd (del H2 a) d (.xd fs))) (fun _ _ _ => False) := fun a ha =>
  ⟨a, .int n, rfl, upd_same, fun dx ndx dne => by
    have nd : H1 dx = none := by
      rw [upd_ne dne] at ndx
      exact ndx
    refine ⟨rfl, dx, [("line", .int n)], upd_same, (upd_ne dne).trans upd_same, nd, w _ dx (fun u o hu => ?_) (e.none nd) upd_same⟩
    have h1 := e u o hu
    have ua := ne_of_none h1 ha
    have ud := ne_of_none h1 nd
    rw [upd_ne ud, del_ne ua, upd_ne ua, upd_ne ud, upd_ne ua]
    exact h1⟩
theorem ok_read_kw (T : Tx W) : ∃ fd, FnOk W.P W.w W.K W.mg W.base (L2.CX W.P W.w) 12 (ga W.K "read_convention") fd ["text"] (sp_read W.K) ∧ Binds W.K fd ["text"] [] ∧ Kw1 W.K fd "text" := by
  obtain ⟨fd, F⟩ := T.d_read_convention
  obtain ⟨fdI, FI, bI⟩ := (ok_IT_init T).ex
  obtain ⟨iC, tI⟩ := T.ini_InvalidText
  refine ⟨fd, ?_, F.bindsN fun _ _ _ _ _ _ us hl => match us, hl with | [_], _ => rfl, kw1_of F fun _ _ _ _ _ _ _ => rfl⟩
  refine F.ok sc_read (fun vs H Q E h => ?_) (fun cdv A outer s H vs Q E hr h => ?_)
  · obtain ⟨v, rfl, _⟩ := h
    rfl
  · obtain ⟨v, rfl, h⟩ := h
    refine ⟨_, (pss_cons (ps_if (pt_not (pt_val (pe_callB call_isi (by rfl) T.f_isinstance (by decide +kernel) (pa_cons (pv 0) (pa_cons (pe_bltn (v := .ty "str") (by rfl) T.f_str (by decide +kernel) rfl) pa_nil))))) (pss_one (ps_raise rfl (takes_of rfl rfl rfl rfl) (pmk_oex T.oex_InvalidText iC tI FI (hr.mono (by decide)) bI .nil pass0 (by rfl) T.g_InvalidText (pa_cons pe_int pa_nil)))) pss_nil)
      (pss_cons (ps_set (i := 1) sc_read.nd rfl (Or.inl rfl) (pe_bm PySem.F.plainAttrs_str PySem.F.slot_str_split PySem.F.type_str_split mt_split (pv 0) (pa_cons pe_str pa_nil)))
      (pss_cons (ps_set (i := 2) sc_read.nd rfl (Or.inl rfl) (u_make0 (ok_Rd_init T) T.mk_Reading T.g_Reading hr))
      (pss_cons (ps_for (passes_of rfl) rfl (pi_enum (by rfl) T.f_enumerate (pa_cons (pe_slice sl_list (pv 1) po_none (po_some (pe_un un_neg pe_int))) pa_nil)) (pg_tup rfl (pgs_cons (pg_name (i := 3) sc_read.nd rfl (Or.inl rfl)) (pgs_cons (pg_name (i := 4) sc_read.nd rfl (Or.inl rfl)) pgs_nil)))
        (pss_one (ps_if (pt_not (pt_val (u_meth (ok_Rd_take T) T.cls_Reading T.m_Reading_take hr (pv 2) (pa_cons (pv 4) pa_nil)))) (pss_one (ps_raise rfl (takes_of rfl rfl rfl rfl) (pmk_oex T.oex_InvalidText iC tI FI (hr.mono (by decide)) bI .nil pass0 (by rfl) T.g_InvalidText (pa_cons (pe_op op_add (pv 3) pe_int) pa_nil)))) pss_nil)))
      (pss_cons (ps_if (PW.pt (pw_or (pt_cmpR op_ne (pe_ix ix_list (pv 1) (pe_un un_neg pe_int) (fun _ _ => rfl)) pe_str (nomark _)) (pw_or1 (pt_not (pt_val (u_meth0 (ok_Rd_done T) T.cls_Reading T.m_Reading_is_done hr (pv 2))))))) (pss_one (ps_raise rfl (takes_of rfl rfl rfl rfl) (pmk_oex T.oex_InvalidText iC tI FI (hr.mono (by decide)) bI .nil pass0 (by rfl) T.g_InvalidText (pa_cons (pe_callB call_len_seq (by rfl) T.f_len (by decide +kernel) (pa_cons (pv 1) pa_nil)) pa_nil)))) pss_nil)
      (pss_one (ps_ret (u_meth0 (ok_Rd_made T) T.cls_Reading T.m_Reading_made_convention hr (pv 2))))))))), ?_⟩
    rcases h with ⟨z, rfl, hz, zok, kE, kQ⟩ | ⟨c, hc, hk, kE⟩
    · refine ⟨_, rfl, _, _, _, _, _, rfl, .ty _, .base (.str z), (show PySem.W.kitOne W.K (.type "str") (.type "str") = some true from kit_ty (by decide +kernel)), _, rfl, ?_⟩
      refine ⟨_, rfl, rfl, z, LF, rfl, rfl, rfl, by rw [sizeLine_eq]; omega, fun q hq => ?_⟩
      have e1 : Ex H (upd H q (.lst ((linesOf z).map V.str))) := (Ex.refl H).more hq
      have q1 := upd_same (H := H) (a := q) (o := .lst ((linesOf z).map V.str))
      have lne : linesOf z ≠ [] := cut_ne sep_LF z
      have llen : ∀ l ∈ linesOf z, l.length ≤ 1000000 ∧ PyData.strOk l = true := fun l hl => ⟨by have := cut_len sep_LF z l hl; omega, cut_ok sep_LF z zok l hl⟩
      have lmany : (linesOf z).length ≤ 900001 := by
        have := cut_many sep_LF z
        show (Txt.split z LF).length ≤ _
        omega
      change tSeq _ _ _ _ (upd H q (.lst ((linesOf z).map V.str)))
      generalize upd H q (.lst ((linesOf z).map V.str)) = H1 at e1 q1 ⊢
      refine fun x dx nx ndx ne => ⟨x, dx, H1, rfl, upd_same, nx, ((Ex.refl H1).more ndx).more (by rw [upd_ne ne.symm]; exact nx), fun H2 hR => ⟨rfl, ?_⟩⟩
      have q2 := hR.bh _ _ q1
      refine ⟨_, rfl, _, rfl, _, rfl, q, _, rfl, SqL.of q2, fun r hr1 => ?_⟩
      rw [show (-(1 : Int)) = -1 from rfl, cut_last, ← List.map_dropLast]
      have hR2 := hR.base (u := .lst ((linesOf z).dropLast.map V.str)) hr1
      have eB : Ex H1 (upd H1 r (.lst ((linesOf z).dropLast.map V.str))) := Ex.ext (hR.bh.none hr1)
      have r1 := upd_same (H := H1) (a := r) (o := .lst ((linesOf z).dropLast.map V.str))
      have qB := eB _ _ q1
      have eHB := e1.trans eB
      generalize upd H1 r (.lst ((linesOf z).dropLast.map V.str)) = B at hR2 eB r1 qB eHB
      generalize upd H2 r (.lst ((linesOf z).dropLast.map V.str)) = H3 at hR2 ⊢
      generalize hL : (linesOf z).dropLast = L at *
      have lL : L.length ≤ 900001 := by
        rw [← hL, List.length_dropLast]
        omega
      refine ⟨r, _, rfl, SqL.of (hR2.bh _ _ r1), for_it (walk_enum (xs := L.map V.str)) (fun i σ Hc => ∃ d v w, rdRun rd0 0 ((L.take i).map wordsOf) = .ok d ∧ RdAt W.K B Hc x d ∧ σ = [some (.str z), some (.ref q), some (.ref x), v, w]) ⟨rd0, none, none, rfl, hR2, rfl⟩ (fun i σ Hc _ h => ?_) (fun i y σ Hc Hc2 hi hP hY => ?_) (fun σ Hc hP => ?_)⟩
      · obtain ⟨d, v, w, _, hRc, _⟩ := h
        exact SqL.of (hRc.bh _ _ r1)
      · obtain ⟨d, v, w, hrun, hRc, rfl⟩ := hP
        obtain ⟨TT, a, b, rfl, hT, rfl, ha, hb⟩ := hY
        obtain rfl := Option.some.inj ha
        obtain ⟨l, hl, rfl⟩ : ∃ l, L[i]? = some l ∧ b = .str l := by
          replace hb : (L.map V.str)[i]? = some b := hb
          rw [List.getElem?_map] at hb
          cases e : L[i]? with
          | none =>
            rw [e] at hb
            cases hb
          | some l =>
            rw [e] at hb
            exact ⟨l, rfl, (Option.some.inj hb).symm⟩
        have lm : l ∈ linesOf z := by
          have := List.mem_of_getElem? hl
          rw [← hL] at this
          exact (List.dropLast_sublist _).subset this
        have et := take_get hl
        have hil : i < L.length := by
          rw [List.length_map] at hi
          exact hi
        have lti : ((L.take i).map wordsOf).length = i := by
          rw [List.length_map, List.length_take]
          omega
        refine ⟨TT, _, rfl, SqT.of upd_same, rfl, _, _, rfl, _, _, rfl, rfl, ?_⟩
        have hRt := hRc.more ((Ex.refl Hc).more (o := .tup [V.int (i : Nat), V.str l]) hT)
        generalize upd Hc TT (.tup [V.int (i : Nat), V.str l]) = Ht at hRt ⊢
        obtain ⟨dx3, p3, n3, o3, f3, as3, es3, g1, _⟩ := hRt.ex
        refine ⟨_, rfl, x, dx3, _, rfl, g1, rfl, _, rfl, x, B, d, l, rfl, hRt, (llen l lm).1, (llen l lm).2, fun H5 hn e5 => ⟨_, rfl, ?_⟩, fun H5 d' hs r5 => ⟨_, rfl, d', _, _, ?_, r5, rfl⟩⟩
        · refine ⟨_, rfl, _, _, rfl, rfl, by show 1 ≤ 1000; decide, wrong_go (n := (i : Int) + 1) ?_ (eHB.trans e5)⟩
          refine kE (i + 1) ?_
          unfold readText
          have hsp : (linesOf z).dropLast = L.take i ++ l :: L.drop (i + 1) := by
            rw [hL]
            have z1 := List.take_append_drop i L
            rw [List.drop_eq_getElem_cons hil] at z1
            have z2 : L[i] = l := by
              rw [List.getElem?_eq_getElem hil] at hl
              exact Option.some.inj hl
            rw [z2] at z1
            exact z1.symm
          rw [hsp, List.map_append, rdRun_snoc _ _ _ _ _ hrun, lti, List.map_cons]
          show (match (match rdTake (wordsOf l) d with
            | none => (.error (0 + i + 1) : Except Nat RdD)
            | some d' => rdRun d' (0 + i + 1) ((L.drop (i + 1)).map wordsOf)) with
            | .error n => (.error n : Except Nat RdD)
            | .ok d => if (linesOf z).getLast? = some Str.empty ∧ d.m = 9 then .ok d else .error (linesOf z).length) = _
          rw [hn, Nat.zero_add]
        · rw [← et, List.map_append, rdRun_snoc _ _ _ _ _ hrun]
          show (match rdTake (wordsOf l) d with
            | none => (.error _ : Except Nat RdD)
            | some d' => rdRun d' _ []) = _
          rw [hs]
          rfl
      · obtain ⟨d, v, w, hrun, hRc, rfl⟩ := hP
        rw [List.length_map, List.take_length] at hrun
        have hq3 := hRc.bh _ _ qB
        obtain ⟨lst, last, hlst⟩ : ∃ lst last, linesOf z = lst ++ [last] := ⟨_, _, (List.dropLast_concat_getLast lne).symm⟩
        have hgl : (linesOf z).getLast? = some last := by rw [hlst]; simp
        have rt : readText z = if last = Str.empty ∧ d.m = 9 then .ok d else .error (linesOf z).length := by
          unfold readText
          rw [hL, hrun]
          show (if (linesOf z).getLast? = some Str.empty ∧ d.m = 9 then (.ok d : Except Nat RdD) else .error (linesOf z).length) = _
          rw [hgl]
          by_cases h1 : last = Str.empty
          · rw [h1]
            simp
          · rw [if_neg (fun h => h1 (Option.some.inj h.1)), if_neg (fun h => h1 h.1)]
        obtain ⟨dx3, p3, n3, o3, f3, as3, es3, g1, _⟩ := hRc.ex
        have bad : ¬ (last = Str.empty ∧ d.m = 9) → (((linesOf z).map V.str).length ≤ 1000000 ∧ ∀ a, Hc a = none → sp_IT_init W.K [.ref a, .int (((linesOf z).map V.str).length : Nat)] (upd Hc a (exo a (ga W.K "InvalidText") none)) (fun v H2 => v = .non ∧ ∃ (d : Addr) (fs : List (Str × V)), H2 a = some (exo a (ga W.K "InvalidText") (some d)) ∧ H2 d = some (exd d fs) ∧ Hc d = none ∧ E (.ref (ga W.K "InvalidText")) (some d) (upd (del H2 a) d (.xd fs))) (fun _ _ _ => False)) := fun h => by
          refine ⟨by rw [List.length_map]; omega, ?_⟩
          rw [List.length_map]
          exact wrong_go (kE _ (by rw [rt, if_neg h])) (eHB.trans hRc.bh)
        have hlast : atI ((linesOf z).map V.str) (-1) = some (V.str last) := by
          rw [hlst, List.map_append]
          exact atI_last _ _
        refine ⟨_, rfl, _, rfl, q, _, _, V.str last, rfl, rfl, SqL.of hq3, hlast, rfl, _, rfl, ?_⟩
        rw [eS]
        refine iteB (c := !_) (fun z1 => ?_) (fun z1 => ?_)
        · exact ⟨_, rfl, q, _, rfl, .inl (SqL.of hq3), by show 1 ≤ 1000; decide, (bad fun h => by
            rw [show last = Str.ofString "" from h.1, decide_eq_true rfl] at z1
            cases z1).2⟩
        · have hl0 : last = Str.empty := of_decide_eq_true (nf z1)
          refine ⟨_, rfl, x, dx3, _, rfl, g1, rfl, x, B, d, rfl, hRc, _, rfl, ?_⟩
          refine iteB (c := !_) (fun z2 => ?_) (fun z2 => ?_)
          · exact ⟨_, rfl, q, _, rfl, .inl (SqL.of hq3), by show 1 ≤ 1000; decide, (bad fun h => by
              rw [decide_eq_true h.2] at z2
              cases z2).2⟩
          · have m9 : d.m = 9 := of_decide_eq_true (nf z2)
            refine ⟨_, rfl, x, dx3, _, rfl, g1, rfl, x, B, d, rfl, hRc, m9, fun H' y b as e hC => kQ d (by rw [rt, if_pos ⟨hl0, m9⟩]) H' y b as (eHB.trans e) hC⟩
    · refine ⟨_, rfl, _, _, _, _, _, rfl, .ty _, hc, hk, _, rfl, ?_⟩
      exact ⟨by show 1 ≤ 1000; decide, wrong_go kE (Ex.refl H)⟩
theorem ok_read (T : Tx W) : Fn W (L2.CX W.P W.w) 12 (ga W.K "read_convention") ["text"] (sp_read W.K) := by
  obtain ⟨fd, F1, F2, _⟩ := ok_read_kw T
  obtain ⟨_, F⟩ := T.d_read_convention
  exact ⟨⟨fd, F1, F2⟩, F.kp⟩
end
end U
/-! ## the law: _law_pot, _law_draw, _law_pick -/
namespace U
open PySem PySem.Spec PyProof.Rows L2 StX
section
variable {W : Wd}
/-- the pot that is drawn from -/
def Pot (H : Hp) (p : Addr) : Prop := ∃ x y : Int, H p = some (.lst [.int x, .int y]) ∧ 0 ≤ x ∧ 0 ≤ y ∧ y ≤ 4294967296
/-- all but the pot stays -/
def ExP (p : Addr) (H H' : Hp) : Prop := ∀ a o, a ≠ p → H a = some o → H' a = some o
theorem ExP.refl (p : Addr) (H : Hp) : ExP p H H := fun _ _ _ h => h
theorem ExP.trans {p : Addr} {A B C : Hp} (x : ExP p A B) (y : ExP p B C) : ExP p A C := fun a o n h => y a o n (x a o n h)
theorem Ex.p {p : Addr} {A B : Hp} (x : Ex A B) : ExP p A B := fun a o _ h => x a o h
theorem Pot.ex {H H' : Hp} {p : Addr} (x : Pot H p) (e : Ex H H') : Pot H' p := by
  obtain ⟨a, b, h, r⟩ := x
  exact ⟨a, b, e _ _ h, r⟩
theorem Pot.ne {H : Hp} {p q : Addr} (x : Pot H p) (h : H q = none) : p ≠ q := by
  obtain ⟨a, b, h', r⟩ := x
  exact ne_of_none h' h
theorem Pot.some {H : Hp} {p : Addr} (x : Pot H p) : H p ≠ Option.none := by
  obtain ⟨a, b, h', r⟩ := x
  rw [h']
  simp
/-- what is new, or of another kind, is not the pot -/
theorem Pot.ne_of {H : Hp} {p q : Addr} {o : HO} (x : Pot H p) (h : H q = Option.some o) (n : ∀ l, o ≠ .lst l) : q ≠ p := by
  obtain ⟨a, b, h', r⟩ := x
  exact L2.ne_of h h' (n _)
theorem ExP.none {p q : Addr} {H H' : Hp} (e : ExP p H H') (x : Pot H p) (h : H' q = Option.none) (hp : Pot H' p) : H q = Option.none := by
  cases e1 : H q with
  | none => rfl
  | some o =>
    have hq := hp.ne h
    rw [e q o hq.symm e1] at h
    cases h
theorem gp1 : (0 : Int) < 2147483549 := by decide
theorem gp2 : (0 : Int) < 2147483477 := by decide
theorem gp3 : (0 : Int) < 2147483587 := by decide
theorem sc_law_pot : FnScope ["_law_script", "_law_k", "_law_cell"] ["_law_script", "_law_k"] (defScope s__law_pot) := ⟨rfl, rfl, rfl, by decide +kernel, rfl, by decide +kernel, by decide +kernel⟩
def sp_law_pot (K : Fg) : Sp := fun vs H Q _ => ∃ (a : Addr) (k : Int) (ns : List Int), vs = [.ref a, .int k] ∧ SqL K H a (ns.map V.int) ∧ 0 ≤ k ∧ k ≤ 3 ∧ ∀ H' p, Ex H H' → H p = none → Pot H' p → Q (.ref p) H'
theorem ok_law_pot (T : Tx W) : Fn W CX0 1 (ga W.K "_law_pot") ["_law_script", "_law_k"] (sp_law_pot W.K) := by
  obtain ⟨fd, F⟩ := T.d__law_pot
  refine ⟨⟨fd, ?_, F.bindsN fun _ _ _ _ _ _ us hl => match us, hl with | [_, _], _ => rfl⟩, F.kp⟩
  refine F.ok sc_law_pot (fun vs H Q E h => ?_) (fun cdv A outer s H vs Q E hr h => ?_)
  · obtain ⟨a, k, ns, rfl, _⟩ := h
    rfl
  · obtain ⟨a, k, ns, rfl, hS, k0, k3, q⟩ := h
    refine ⟨_, PSs.nox (pss_cons (ps_set (i := 2) sc_law_pot.nd rfl (Or.inl rfl) (pe_op op_add (pe_op op_mul pe_int (pv 1)) pe_int))
      (pss_cons (ps_if (pt_cmpR op_lt (pv 1) (pe_callB call_len_seq (by rfl) T.f_len (by decide +kernel) (pa_cons (pv 0) pa_nil)) (nomark _)) (pss_one (ps_set (i := 2) sc_law_pot.nd rfl (Or.inl rfl) (pe_callB call_abs (by rfl) T.f_abs (by decide +kernel) (pa_cons (pe_ix ix_list (pv 0) (pv 1) (fun _ _ => rfl)) pa_nil)))) pss_nil)
      (pss_one (ps_ret (pe_lst (pa_cons (pe_callB (call_max2 rfl) (by rfl) T.f_max (by decide +kernel) (pa_cons pe_int (pa_cons (pe_op op_sub (pv 2) (pe_op op_pow pe_int pe_int)) pa_nil)))
        (pa_cons (pe_op op_add (pe_op op_mod (pe_op op_mul (pe_callTy call_int1 (by rfl) T.f_int (by decide +kernel) (pa_cons (pe_op op_add (pe_op op_mod (pe_callTy call_int1 (by rfl) T.f_int (by decide +kernel) (pa_cons (pv 2) pa_nil)) pe_int) pe_int) pa_nil)) (pe_op op_pow (pe_op op_add (pe_op op_mul pe_int (pv 1)) pe_int) pe_int)) pe_int) pe_int) pa_nil))))))), ?_⟩
    refine ⟨_, rfl, _, _, rfl, rfl, .inl ⟨by decide, by decide⟩, _, _, rfl, rfl, ?_⟩
    refine ⟨_, rfl, _, rfl, a, _, rfl, .inl hS, _, _, rfl, rfl, _, rfl, ?_⟩
    have tail : ∀ cell : Int, tSeq (tRet (tLst (tCons (tCB (fun xs H Q => ∃ i j, xs = [V.int i, V.int j] ∧ Q (.int (if j > i then j else i)) H) (tCons (tC (.int 0)) (tCons (tOp (rI0 fun i j => .int (i - j)) (tVar 2) (tOp (rI CPow fun i j => .int (i ^ j.toNat)) (tC (.int 10)) (tC (.int 18)))) tNil)))
        (tCons (tOp (rI0 fun i j => .int (i + j)) (tOp (rI (fun _ j => 0 < j) fun i j => .int (i % j)) (tOp (rI CMul fun i j => .int (i * j)) (tCB (fun xs H Q => (∃ i, xs = [V.int i] ∧ Q (.int i) H) ∨ ∃ k, xs = [V.bl k] ∧ Q (.int (b2i k)) H) (tCons (tOp (rI0 fun i j => .int (i + j)) (tOp (rI (fun _ j => 0 < j) fun i j => .int (i % j)) (tCB (fun xs H Q => (∃ i, xs = [V.int i] ∧ Q (.int i) H) ∨ ∃ k, xs = [V.bl k] ∧ Q (.int (b2i k)) H) (tCons (tVar 2) tNil)) (tC (.int 2147483549))) (tC (.int 7))) tNil))
          (tOp (rI CPow fun i j => .int (i ^ j.toNat)) (tOp (rI0 fun i j => .int (i + j)) (tOp (rI CMul fun i j => .int (i * j)) (tC (.int 2)) (tVar 1)) (tC (.int 3))) (tC (.int 3)))) (tC (.int 2147483477))) (tC (.int 1))) tNil)))) tNext { nx := fun _ H' => Q .non H', rt := Q } [some (.ref a), some (.int k), some (.int cell)] H := fun cell => by
      have m1 : 0 ≤ cell % 2147483549 := Int.emod_nonneg _ (by decide)
      have m2 : cell % 2147483549 < 2147483549 := Int.emod_lt_of_pos _ (by decide)
      refine ⟨_, rfl, _, _, rfl, rfl, ⟨by decide, by decide, by decide⟩, _, _, rfl, rfl, _, _, rfl, ?_⟩
      refine ⟨_, rfl, .inl ⟨_, rfl, _, _, rfl, rfl, gp1, _, _, rfl, rfl, .inl ⟨_, rfl, _, rfl, _, _, rfl, rfl, .inl ⟨by decide, by decide⟩, _, _, rfl, rfl, _, _, rfl, rfl, ⟨by decide, by decide, by omega⟩, _, _, rfl, rfl, .inl ⟨by omega, by omega⟩, _, _, rfl, rfl, gp2, _, _, rfl, rfl, by show 2 ≤ sizeLine; decide, fun p hp => q _ p ((Ex.refl H).more hp) hp ⟨_, _, upd_same, ?_, ?_, ?_⟩⟩⟩⟩
      · split <;> omega
      · have n1 := Int.emod_nonneg ((cell % 2147483549 + 7) * (2 * k + 3) ^ (3 : Int).toNat) (show (2147483477 : Int) ≠ 0 by decide)
        omega
      · have n2 := Int.emod_lt_of_pos ((cell % 2147483549 + 7) * (2 * k + 3) ^ (3 : Int).toNat) (show (0 : Int) < 2147483477 by decide)
        omega
    refine iteB (fun h1 => ?_) (fun h1 => tail _)
    obtain ⟨n, rfl⟩ : ∃ n : Nat, k = n := ⟨k.toNat, by omega⟩
    have hn : n < (ns.map V.int).length := by
      have := of_decide_eq_true h1
      omega
    have hn2 : n < ns.length := by rwa [List.length_map] at hn
    refine ⟨_, rfl, _, rfl, a, _, _, V.int ns[n], rfl, rfl, hS, atI_nat (by rw [List.getElem?_map, List.getElem?_eq_getElem hn2]; rfl), _, rfl, tail _⟩
/-! ### a digit -/
theorem sc_law_draw : FnScope ["_law_pot_here", "_law_many", "_law_digit"] ["_law_pot_here", "_law_many"] (defScope s__law_draw) := ⟨rfl, rfl, rfl, by decide +kernel, rfl, by decide +kernel, by decide +kernel⟩
def sp_law_draw : Sp := fun vs H Q _ => ∃ (p : Addr) (n : Int), vs = [.ref p, .int n] ∧ Pot H p ∧ 1 ≤ n ∧ n ≤ 1000000 ∧ ∀ H' d, 0 ≤ d → d < n → ExP p H H' → Pot H' p → Q (.int d) H'
theorem ok_law_draw (T : Tx W) : Fn W CX0 1 (ga W.K "_law_draw") ["_law_pot_here", "_law_many"] sp_law_draw := by
  obtain ⟨fd, F⟩ := T.d__law_draw
  refine ⟨⟨fd, ?_, F.bindsN fun _ _ _ _ _ _ us hl => match us, hl with | [_, _], _ => rfl⟩, F.kp⟩
  refine F.ok sc_law_draw (fun vs H Q E h => ?_) (fun cdv A outer s H vs Q E hr h => ?_)
  · obtain ⟨p, n, rfl, _⟩ := h
    rfl
  · obtain ⟨p, n, rfl, ⟨x, y, hp, x0, y0, y1⟩, n1, n2, q⟩ := h
    refine ⟨_, PSs.nox (pss_cons (ps_if (pt_cmpR op_gt (pe_ix ix_list (pv 0) pe_int (fun _ _ => rfl)) pe_int (nomark _))
        (pss_cons (ps_asg (pe_callB call_divmod (by rfl) T.f_divmod (by decide +kernel) (pa_cons (pe_ix ix_list (pv 0) pe_int (fun _ _ => rfl)) (pa_cons (pv 1) pa_nil))) (pg_tup rfl (pgs_cons (pg_sub (pv 0) pe_int set_list) (pgs_cons (pg_name (i := 2) sc_law_draw.nd rfl (Or.inl rfl)) pgs_nil))))
        (pss_one (ps_ret (pv 2)))) pss_nil)
      (pss_cons (ps_asg (pe_op op_mod (pe_callTy call_int1 (by rfl) T.f_int (by decide +kernel) (pa_cons (pe_op op_add (pe_op op_mul (pe_ix ix_list (pv 0) pe_int (fun _ _ => rfl)) pe_int) pe_int) pa_nil)) pe_int) (pg_sub (pv 0) pe_int set_list))
      (pss_one (ps_ret (pe_op op_mod (pe_callTy call_int1 (by rfl) T.f_int (by decide +kernel) (pa_cons (pe_op op_fdiv (pe_op op_mod (pe_callTy call_int1 (by rfl) T.f_int (by decide +kernel) (pa_cons (pe_op op_mul (pe_ix ix_list (pv 0) pe_int (fun _ _ => rfl)) (pe_ix ix_list (pv 0) pe_int (fun _ _ => rfl))) pa_nil)) pe_int) pe_int) pa_nil)) (pv 1)))))), ?_⟩
    refine ⟨_, rfl, p, _, _, V.int x, rfl, rfl, SqL.of hp, rfl, _, _, rfl, rfl, _, rfl, ?_⟩
    have ex : ∀ {u : HO} {Hn : Hp}, ExP p H Hn → ExP p H (upd Hn p u) := fun e a o n h => by
      rw [upd_ne n]
      exact e a o n h
    refine iteB (fun h1 => ?_) (fun h1 => ?_)
    · refine ⟨_, rfl, p, _, _, V.int x, rfl, rfl, SqL.of hp, rfl, _, rfl, _, _, rfl, ⟨by omega, by omega⟩, fun t ht => ?_⟩
      have pt := ne_of_none hp ht
      refine ⟨t, _, rfl, SqT.of upd_same, rfl, _, _, rfl, ?_⟩
      refine ⟨_, rfl, p, _, _, 0, rfl, rfl, (upd_ne pt).trans hp, rfl, _, _, rfl, rfl, ?_⟩
      refine ⟨_, rfl, q _ _ (Int.emod_nonneg _ (by omega)) (Int.emod_lt_of_pos _ (by omega)) (ex (((Ex.refl H).more ht).p)) ⟨_, _, upd_same, Int.ediv_nonneg x0 (by omega), y0, y1⟩⟩
    · refine ⟨_, rfl, p, _, _, V.int y, rfl, rfl, SqL.of hp, rfl, _, _, rfl, rfl, .inr ⟨by decide, by decide⟩, _, _, rfl, rfl, .inl ⟨_, rfl, _, _, rfl, rfl, gp3, ?_⟩⟩
      refine ⟨_, rfl, p, _, _, 1, rfl, rfl, hp, rfl, ?_⟩
      have m1 : 0 ≤ (y * 48271 + 12161) % 2147483587 := Int.emod_nonneg _ (by decide)
      have m2 : (y * 48271 + 12161) % 2147483587 < 2147483587 := Int.emod_lt_of_pos _ (by decide)
      have hp2 := upd_same (H := H) (a := p) (o := .lst [V.int x, .int ((y * 48271 + 12161) % 2147483587)])
      change tSeq _ _ _ _ (upd H p (.lst [V.int x, .int ((y * 48271 + 12161) % 2147483587)]))
      have e2 : ExP p H (upd H p (.lst [V.int x, .int ((y * 48271 + 12161) % 2147483587)])) := ex (ExP.refl p H)
      generalize (y * 48271 + 12161) % 2147483587 = z at m1 m2 hp2 e2 ⊢
      generalize upd H p (.lst [V.int x, .int z]) = H2 at hp2 e2 ⊢
      refine ⟨_, rfl, p, _, _, V.int z, rfl, rfl, SqL.of hp2, rfl, _, rfl, p, _, _, V.int z, rfl, rfl, SqL.of hp2, rfl, _, _, rfl, rfl, .inl ⟨by omega, by omega⟩, .inl ⟨_, rfl, _, _, rfl, rfl, gp1, _, _, rfl, rfl, ⟨by decide, by decide⟩, .inl ⟨_, rfl, _, rfl, _, _, rfl, rfl, by omega, ?_⟩⟩⟩
      exact q _ _ (Int.emod_nonneg _ (by omega)) (Int.emod_lt_of_pos _ (by omega)) e2 ⟨_, _, hp2, x0, m1, by omega⟩
/-! ### one of several -/
theorem sc_law_pick : FnScope ["_law_pot_here", "_law_some"] ["_law_pot_here", "_law_some"] (defScope s__law_pick) := ⟨rfl, rfl, rfl, by decide +kernel, rfl, by decide +kernel, by decide +kernel⟩
def sp_law_pick : Sp := fun vs H Q _ => ∃ (p l : Addr) (xs : List V), vs = [.ref p, .ref l] ∧ Pot H p ∧ H l = some (.lst xs) ∧ l ≠ p ∧ xs ≠ [] ∧ xs.length ≤ 1000 ∧ ∀ H' v, v ∈ xs → ExP p H H' → Pot H' p → Q v H'
theorem ok_law_pick (T : Tx W) : Fn W CX0 2 (ga W.K "_law_pick") ["_law_pot_here", "_law_some"] sp_law_pick := by
  obtain ⟨fd, F⟩ := T.d__law_pick
  refine ⟨⟨fd, ?_, F.bindsN fun _ _ _ _ _ _ us hl => match us, hl with | [_, _], _ => rfl⟩, F.kp⟩
  refine F.ok sc_law_pick (fun vs H Q E h => ?_) (fun cdv A outer s H vs Q E hr h => ?_)
  · obtain ⟨p, l, xs, rfl, _⟩ := h
    rfl
  · obtain ⟨p, l, xs, rfl, hp, hl, lp, ne, few, q⟩ := h
    refine ⟨_, PSs.nox (pss_one (ps_ret (pe_ix ix_list (pv 1) (u_call (ok_law_draw T) T.g__law_draw hr (pa_cons (pv 0) (pa_cons (pe_callB call_len_seq (by rfl) T.f_len (by decide +kernel) (pa_cons (pv 1) pa_nil)) pa_nil))) (fun _ _ => rfl)))), ?_⟩
    have l0 : 0 < xs.length := List.length_pos_iff.mpr ne
    refine ⟨_, rfl, _, rfl, _, rfl, l, _, rfl, .inl (SqL.of hl), p, _, rfl, hp, by omega, by omega, fun H' d d0 d1 e hp' => ?_⟩
    obtain ⟨n, rfl⟩ : ∃ n : Nat, d = n := ⟨d.toNat, by omega⟩
    have hn : n < xs.length := by omega
    exact ⟨l, _, _, xs[n], rfl, rfl, SqL.of (e _ _ lp hl), atI_nat (List.getElem?_eq_getElem hn), q H' _ (List.getElem_mem hn) e hp'⟩
end
end U
/-! ## the law: names -/
namespace U
open PySem PySem.Spec PyProof.Rows L2 StX TL
section
variable {W : Wd}
/-! ### the mathematics of names -/
theorem nodup_le {α : Type} [DecidableEq α] : ∀ {l m : List α}, l.Nodup → (∀ x ∈ l, x ∈ m) → l.length ≤ m.length
  | [], m, _, _ => Nat.zero_le _
  | a :: r, m, h, hs => by
    obtain ⟨h1, h2⟩ := List.nodup_cons.mp h
    have ha := hs a (.head _)
    have := nodup_le (l := r) (m := m.erase a) h2 fun x hx => (List.mem_erase_of_ne (by rintro rfl; exact h1 hx)).mpr (hs x (.tail _ hx))
    rw [List.length_erase_of_mem ha] at this
    have := List.length_pos_of_mem ha
    rw [List.length_cons]
    omega
theorem allIn_tl {l z : Str} : allIn l z = (tl z).all (inT l) := rfl
theorem name_of {z : Str} (h1 : 1 ≤ z.length) (h8 : z.length ≤ 8) (ha : ∀ c ∈ tl z, inT LETTERS c = true) : isName z = true := by
  show (decide (1 ≤ z.length) && (decide (z.length ≤ 8) && allIn LETTERS z)) = true
  rw [decide_eq_true h1, decide_eq_true h8, allIn_tl, List.all_eq_true.mpr ha]
  rfl
theorem name_facts {z : Str} (h : isName z = true) : 1 ≤ z.length ∧ z.length ≤ 8 ∧ ∀ c ∈ tl z, inT LETTERS c = true := by
  obtain ⟨h1, h2⟩ := He.ba h
  obtain ⟨h3, h4⟩ := He.ba h2
  exact ⟨of_decide_eq_true h1, of_decide_eq_true h3, List.all_eq_true.mp h4⟩
/-- one letter -/
def One (z : Str) : Prop := ∃ c, inT LETTERS c = true ∧ z = ⟨#[c]⟩
theorem joinL_nil : ∀ l : List (List Nat), joinL [] l = l.flatten
  | [] => rfl
  | [p] => by simp [joinL]
  | p :: q :: r => by
    show p ++ ([] ++ joinL [] (q :: r)) = _
    rw [joinL_nil (q :: r)]
    rfl
theorem flat_one : ∀ zs : List Str, (∀ z ∈ zs, One z) → ((zs.map tl).flatten).length = zs.length
  | [], _ => rfl
  | z :: r, h => by
    obtain ⟨c, hc, rfl⟩ := h z (.head _)
    have := flat_one r fun y hy => h y (.tail _ hy)
    rw [List.map_cons, List.flatten_cons, List.length_append, this]
    show 1 + r.length = r.length + 1
    omega
theorem join_one {zs : List Str} (h : ∀ z ∈ zs, One z) : (Txt.join (Str.ofString "") zs).length = zs.length ∧ ∀ c ∈ tl (Txt.join (Str.ofString "") zs), inT LETTERS c = true := by
  have e : tl (Txt.join (Str.ofString "") zs) = (zs.map tl).flatten := by
    rw [join_eq, tl_join]
    exact joinL_nil _
  constructor
  · rw [len_tl, e]
    exact flat_one zs h
  · rw [e]
    intro c hc
    obtain ⟨l, hl, hcl⟩ := List.mem_flatten.mp hc
    obtain ⟨z, hz, rfl⟩ := List.mem_map.mp hl
    obtain ⟨d, hd, rfl⟩ := h z hz
    have : c ∈ [d] := hcl
    rw [List.mem_singleton.mp this]
    exact hd
def cut7 (z : Str) : Str := cutS z none (some 7)
theorem tl_cut7 (z : Str) : tl (cut7 z) = (tl z).take 7 := by
  unfold cut7 cutS
  rw [HT.sIx_none]
  have e := HT.sIx_nat z.length z.length 7
  rw [show (some (((7 : Nat) : Int)) : Option Int) = some 7 from rfl] at e
  rw [e]
  show (((tl z).drop 0).take (min 7 z.length - 0)) = _
  rw [List.drop_zero, Nat.sub_zero, len_tl]
  by_cases h : 7 ≤ (tl z).length
  · rw [Nat.min_eq_left h]
  · rw [Nat.min_eq_right (by omega), List.take_length, List.take_of_length_le (by omega)]
def lets : List Nat := LETTERS.cps.toList
theorem lets_nd : lets.Nodup := by decide +kernel
theorem lets_len : lets.length = 26 := by decide +kernel
/-- the names that begin alike -/
def cands (z : Str) : List Str := lets.map fun c => cut7 z ++ ⟨#[c]⟩
theorem cands_nd (z : Str) : (cands z).Nodup := by
  unfold cands
  refine List.pairwise_map.mpr (List.Pairwise.imp ?_ lets_nd)
  intro a b hab e
  have e2 := congrArg tl e
  rw [tl_append, tl_append] at e2
  have e3 := List.append_cancel_left e2
  have e4 : [a] = [b] := e3
  injection e4 with e5
  exact hab e5
theorem cands_name {z y : Str} (h : isName z = true) (hy : y ∈ cands z) : isName y = true := by
  obtain ⟨h1, h8, ha⟩ := name_facts h
  obtain ⟨c, hc, rfl⟩ := List.mem_map.mp hy
  have ht : tl (cut7 z ++ ⟨#[c]⟩) = (tl z).take 7 ++ [c] := by rw [tl_append, tl_cut7]
  refine name_of ?_ ?_ fun d hd => ?_
  · rw [len_tl, ht, List.length_append]
    show 1 ≤ _ + 1
    omega
  · rw [len_tl, ht, List.length_append, List.length_take]
    show min 7 _ + 1 ≤ 8
    omega
  · rw [ht] at hd
    rcases List.mem_append.mp hd with q | q
    · exact ha d (List.mem_of_mem_take q)
    · rw [List.mem_singleton.mp q]
      exact decide_eq_true hc
theorem cands_free {z : Str} {ns : List Str} (h : ns.length ≤ 4) : (cands z).filter (fun y => decide (y ∉ ns)) ≠ [] := fun e => by
  have hs : ∀ y ∈ cands z, y ∈ ns := fun y hy => by
    have := List.filter_eq_nil_iff.mp e y hy
    simpa using this
  have := nodup_le (cands_nd z) hs
  unfold cands at this
  rw [List.length_map, lets_len] at this
  omega
/-- names as they must be -/
def NamesOk (ns : List Str) : Prop := ns.Nodup ∧ ∀ z ∈ ns, isName z = true
theorem namesOk_snoc {ns : List Str} {z : Str} (h : NamesOk ns) (hz : isName z = true) (hn : z ∉ ns) : NamesOk (ns ++ [z]) := by
  refine ⟨List.nodup_append.mpr ⟨h.1, by simp, fun a ha b hb => ?_⟩, fun y hy => ?_⟩
  · rw [List.mem_singleton.mp hb]
    exact fun e => hn (e ▸ ha)
  · rcases List.mem_append.mp hy with q | q
    · exact h.2 y q
    · rw [List.mem_singleton.mp q]
      exact hz
end
end U
/-! ## the law: _law_named -/
namespace U
open PySem PySem.Spec PyProof.Rows L2 StX TL
section
variable {W : Wd}
abbrev nN : List Str := ["_law_pot_here", "_law_many", "_law_letters", "_law_found", "_law_k", "_law_label", "_law_turn", "_law_letter"]
theorem sc_law_named : FnScope nN ["_law_pot_here", "_law_many"] (defScope s__law_named) := ⟨rfl, rfl, rfl, by decide +kernel, rfl, by decide +kernel, by decide +kernel⟩
def sp_law_named : Sp := fun vs H Q _ => ∃ (p : Addr) (n : Int), vs = [.ref p, .int n] ∧ Pot H p ∧ 1 ≤ n ∧ n ≤ 5 ∧ ∀ H' l ns, ExP p H H' → Pot H' p → H l = none → H' l = some (.lst (ns.map V.str)) → (ns.length : Int) = n → NamesOk ns → Q (.ref l) H'
theorem ExP.put {p q : Addr} {H Hc : Hp} {u : HO} (e : ExP p H Hc) (h : H q = Option.none) : ExP p H (upd Hc q u) := fun a o n ha => by
  rw [upd_ne (ne_of_none ha h)]
  exact e a o n ha
theorem Pot.put {p q : Addr} {Hc : Hp} {u : HO} (x : Pot Hc p) (h : p ≠ q) : Pot (upd Hc q u) p := by
  obtain ⟨a, b, h', r⟩ := x
  exact ⟨a, b, (upd_ne h).trans h', r⟩
theorem ok_law_named (T : Tx W) : Fn W CX0 2 (ga W.K "_law_named") ["_law_pot_here", "_law_many"] sp_law_named := by
  obtain ⟨fd, F⟩ := T.d__law_named
  refine ⟨⟨fd, ?_, F.bindsN fun _ _ _ _ _ _ us hl => match us, hl with | [_, _], _ => rfl⟩, F.kp⟩
  refine F.ok sc_law_named (fun vs H Q E h => ?_) (fun cdv A outer s H vs Q E hr h => ?_)
  · obtain ⟨p, n, rfl, _⟩ := h
    rfl
  · obtain ⟨p, n, rfl, hp, n1, n5, q⟩ := h
    refine ⟨_, PSs.nox (pss_cons (ps_asg (pe_tup (pa_cons pe_str (pa_cons (pe_lst pa_nil) pa_nil))) (pg_tup rfl (pgs_cons (pg_name (i := 2) sc_law_named.nd rfl (Or.inr rfl)) (pgs_cons (pg_name (i := 3) sc_law_named.nd rfl (Or.inr rfl)) pgs_nil))))
      (pss_cons (ps_for PassesOwn.never rfl (pi_range1 rfl T.f_range (pa_cons (pv 1) pa_nil)) (pg_name (i := 4) sc_law_named.nd rfl (Or.inl rfl))
        (pss_cons (ps_set (i := 5) sc_law_named.nd rfl (Or.inr rfl) (pe_bm PySem.F.plainAttrs_str PySem.F.slot_str_join PySem.F.type_str_join mt_join pe_str (pa_cons (pe_lc (own := [("_law_turn", 6)]) (g := gName 6) (tt := tYes) rfl sc_law_named.nd (pi_range1 rfl T.f_range (pa_cons (pe_op op_add pe_int (u_call (ok_law_draw T) T.g__law_draw hr (pa_cons (pv 0) (pa_cons pe_int pa_nil)))) pa_nil)) (blkOk_by (N := nN) (sc := defScope s__law_named) (by decide +kernel))
            (fun _ _ _ _ _ => pg_name (i := 6) sc_law_named.nd rfl (Or.inl rfl)) (fun _ _ _ _ _ => pts_nil) (fun _ _ _ _ _ => pe_item_str (pv 2) (u_call (ok_law_draw T) T.g__law_draw hr (pa_cons (pv 0) (pa_cons pe_int pa_nil))) (fun _ _ => rfl))) pa_nil)))
        (pss_cons (ps_if (pt_cmpR op_in_seq (pv 5) (pv 3) rfl) (pss_one (ps_set (i := 5) sc_law_named.nd rfl (Or.inr rfl) (pe_ix ix_list (pe_lc (own := [("_law_letter", 7)]) (g := gName 7) (tt := tTest (tOp (rIn W.K true) (tOp (fun x y H Q => ∃ i j, x = .str i ∧ y = .str j ∧ i.length + j.length ≤ sizeLine ∧ Q (.str (i ++ j)) H) (tSl rSlS (tVar 5) tNoPart (tPart (tC (.int 7)))) (tVar 7)) (tVar 3))) rfl sc_law_named.nd (pi_str (pv 2)) (blkOk_by (N := nN) (sc := defScope s__law_named) (by decide +kernel))
            (fun _ _ _ _ _ => pg_name (i := 7) sc_law_named.nd rfl (Or.inl rfl)) (fun _ _ _ _ _ => pts_one (pt_cmpR op_notIn_seq (pe_op op_add_str (pe_slice sl_str (pv 5) po_none (po_some pe_int)) (pv 7)) (pv 3) rfl)) (fun _ _ _ _ _ => pe_op op_add_str (pe_slice sl_str (pv 5) po_none (po_some pe_int)) (pv 7))) pe_int (fun _ _ => rfl)))) pss_nil)
        (pss_one (ps_expr (pe_bm PySem.F.plainAttrs_list PySem.F.slot_list_append PySem.F.type_list_append mt_append (pv 3) (pa_cons (pv 5) pa_nil)))))))
      (pss_one (ps_ret (pv 3))))), ?_⟩
    refine ⟨by show 0 ≤ sizeLine; decide, fun l hl => ⟨by show 2 ≤ sizeLine; decide, fun t ht => ?_⟩⟩
    have pl := hp.ne hl
    have e1 : ExP p H (upd (upd H l (.lst [])) t (.tup [V.str LETTERS, .ref l])) := (((Ex.refl H).more hl).more ht).p
    have p1 := hp.ex (((Ex.refl H).more (o := .lst []) hl).more (o := .tup [V.str LETTERS, .ref l]) ht)
    have lt : l ≠ t := ne_of_none upd_same ht
    have l1 : upd (upd H l (.lst [])) t (.tup [V.str LETTERS, .ref l]) l = some (.lst []) := (upd_ne lt).trans upd_same
    refine ⟨t, _, rfl, SqT.of upd_same, rfl, _, _, rfl, _, _, rfl, rfl, ?_⟩
    change tSeq _ _ _ _ (upd (upd H l (.lst [])) t (.tup [V.str LETTERS, .ref l]))
    generalize upd (upd H l (.lst [])) t (.tup [V.str LETTERS, .ref l]) = H1 at e1 p1 l1 ⊢
    obtain ⟨N, rfl⟩ : ∃ N : Nat, n = N := ⟨n.toNat, by omega⟩
    refine ⟨_, rfl, _, rfl, by omega, by omega, for_it (walk_range (lo := 0) (n := N)) (fun i σ Hc => ∃ ns v w, ExP p H Hc ∧ Pot Hc p ∧ Hc l = some (.lst (ns.map V.str)) ∧ ns.length = i ∧ NamesOk ns ∧ σ = [some (.ref p), some (.int N), some (.str LETTERS), some (.ref l), v, w, none, none])
      ⟨[], none, none, e1, p1, l1, rfl, ⟨List.nodup_nil, fun z h => absurd h List.not_mem_nil⟩, rfl⟩ (fun _ _ _ _ _ => True.intro) (fun i y σ Hc H2 hi hP hY => ?_) (fun σ Hc hP => ?_)⟩
    · obtain ⟨ns, v, w, ec, pc, lc, ln, nok, rfl⟩ := hP
      obtain ⟨rfl, rfl⟩ := hY
      refine ⟨rfl, _, rfl, p, 8, rfl, pc, by decide, by decide, fun H3 d d0 d8 e3 p3 => ⟨_, _, rfl, rfl, ?_⟩⟩
      have plc : p ≠ l := pl
      have l3 := e3 l _ plc.symm lc
      have e13 := ec.trans e3
      obtain ⟨M, rfl⟩ : ∃ M : Nat, d = M := ⟨d.toNat, by omega⟩
      refine ⟨_, rfl, by omega, by omega, fun D hD => ?_⟩
      have pD := p3.ne hD
      have hDH : H D = none := e13.none hp hD p3
      have lD := ne_of_none l3 hD
      rw [show ((1 : Int) + (M : Int)).toNat = 1 + M by omega]
      refine lc_it (walk_range (lo := 0) (n := 1 + M)) (fun i Hn => ∃ zs : List Str, ExP p H3 Hn ∧ Pot Hn p ∧ Hn D = some (.lst (zs.map V.str)) ∧ zs.length = i ∧ ∀ z ∈ zs, One z) ⟨[], ((Ex.refl H3).more hD).p, p3.put pD, upd_same, rfl, fun z h => absurd h List.not_mem_nil⟩ (fun _ _ _ _ => True.intro) (fun j y Hn Hn2 hj hPn hYn => ?_) (fun Hn hPn => ?_)
      · obtain ⟨zs, en, pn, Dn, zl, zo⟩ := hPn
        obtain ⟨rfl, rfl⟩ := hYn
        refine ⟨rfl, _, rfl, _, rfl, p, 26, rfl, pn, by decide, by decide, fun H4 c c0 c26 e4 p4 => ?_⟩
        obtain ⟨m, rfl⟩ : ∃ m : Nat, c = m := ⟨c.toNat, by omega⟩
        have hm : m < LETTERS.cps.toList.length := by
          rw [show LETTERS.cps.toList.length = 26 from lets_len]
          omega
        have hg : LETTERS.cps[((m : Int)).toNat]? = some (LETTERS.cps.toList[m]) := by
          rw [Int.toNat_natCast]
          simp
        have hz : (LETTERS.length : Nat) = 26 := lets_len ▸ (by rw [len_tl]; rfl)
        refine ⟨LETTERS, m, _, rfl, rfl, by omega, by omega, by rw [hz]; omega, hg, _, e4 D _ pD.symm Dn, ?_, zs ++ [⟨#[LETTERS.cps.toList[m]]⟩], ?_, ?_, ?_, ?_, ?_⟩
        · rw [List.length_map, sizeLine_eq]
          omega
        · exact (en.trans e4).put hD
        · exact p4.put pD
        · rw [upd_same, List.map_append]
          rfl
        · rw [List.length_append, zl]
          rfl
        · intro z hz'
          rcases List.mem_append.mp hz' with h | h
          · exact zo z h
          · rw [List.mem_singleton.mp h]
            exact ⟨_, decide_eq_true (List.getElem_mem hm), rfl⟩
      · obtain ⟨zs, en, pn, Dn, zl, zo⟩ := hPn
        have lens : (zs.map (·.length)).sum = zs.length := by
          clear Dn zl
          induction zs with
          | nil => rfl
          | cons z r ih =>
            obtain ⟨c, _, rfl⟩ := zo z (.head _)
            have := ih fun y hy => zo y (.tail _ hy)
            rw [List.map_cons, List.sum_cons, this]
            show 1 + r.length = r.length + 1
            omega
        refine ⟨Str.ofString "", D, zs, rfl, rfl, .inl (SqL.of Dn), ?_, ?_⟩
        · rw [lens, show (Str.ofString "").length = 0 from rfl]
          omega
        · obtain ⟨j1, j2⟩ := join_one zo
          have lab : isName (Txt.join (Str.ofString "") zs) = true := name_of (by omega) (by omega) j2
          generalize Txt.join (Str.ofString "") zs = label at lab ⊢
          have ln' := en l _ plc.symm l3
          have enH := e13.trans en
          have inv : ∀ (H5 : Hp) (z : Str), ExP p Hn H5 → Pot H5 p → isName z = true → z ∉ ns → H5 l = some (.lst (ns.map V.str)) ∧ (ns.map V.str).length < sizeLine ∧ ExP p H (upd H5 l (.lst (ns.map V.str ++ [V.str z]))) ∧ Pot (upd H5 l (.lst (ns.map V.str ++ [V.str z]))) p ∧
              upd H5 l (.lst (ns.map V.str ++ [V.str z])) l = some (.lst ((ns ++ [z]).map V.str)) ∧ (ns ++ [z]).length = i + 1 ∧ NamesOk (ns ++ [z]) := fun H5 z e5 p5 hz hn => by
            refine ⟨e5 l _ plc.symm ln', by rw [List.length_map, sizeLine_eq]; omega, (enH.trans e5).put hl, p5.put plc, ?_, ?_, namesOk_snoc nok hz hn⟩
            · rw [upd_same, List.map_append]
              rfl
            · rw [List.length_append, ln]
              rfl
          refine ⟨_, rfl, _, rfl, l, _, rfl, .inl (SqL.of ln'), rfl, flat_strs _, _, rfl, ?_⟩
          show if inV (.str label) (ns.map V.str) = true then _ else _
          rw [inV_strs]
          refine iteB (fun hin => ?_) (fun hin => ?_)
          · refine ⟨_, rfl, _, rfl, fun D2 hD2 => ?_⟩
            have lD2 := ne_of_none ln' hD2
            have pD2 := pn.ne hD2
            refine lc_it (walk_str (z := LETTERS)) (fun k Hm => Ex Hn Hm ∧ Hm D2 = some (.lst ((((cands label).take k).filter fun y => decide (y ∉ ns)).map V.str))) ⟨(Ex.refl Hn).more hD2, upd_same⟩ (fun _ _ _ _ => True.intro) (fun k y Hm Hm2 hk hPm hYm => ?_) (fun Hm hPm => ?_)
            · obtain ⟨em, Dm⟩ := hPm
              obtain ⟨rfl, c, hc, rfl⟩ := hYm
              have hcl : lets[k]? = some c := by
                have : LETTERS.cps.toList[k]? = some c := by simpa using hc
                exact this
              have hy : (cands label)[k]? = some (cut7 label ++ ⟨#[c]⟩) := by
                unfold cands
                rw [List.getElem?_map, hcl]
                rfl
              have et := take_get hy
              have h7 : (cut7 label).length ≤ 8 := by
                have := cutS_length label none (some 7)
                have := (name_facts lab).2.1
                show (cutS label none (some 7)).length ≤ 8
                omega
              have hsz : (cut7 label).length + (⟨#[c]⟩ : Str).length ≤ sizeLine := by
                rw [sizeLine_eq, show (⟨#[c]⟩ : Str).length = 1 from rfl]
                omega
              have l8 : label.length ≤ sizeLine := by
                rw [sizeLine_eq]
                have := (name_facts lab).2.1
                omega
              have snoc : ((cands label).take (k + 1)).filter (fun y => decide (y ∉ ns)) = ((cands label).take k).filter (fun y => decide (y ∉ ns)) ++ if decide ((cut7 label ++ ⟨#[c]⟩ : Str) ∉ ns) = true then [cut7 label ++ ⟨#[c]⟩] else [] := by
                rw [← et, List.filter_append]
                congr 1
                by_cases h : decide ((cut7 label ++ ⟨#[c]⟩ : Str) ∉ ns) = true
                · rw [if_pos h, List.filter_cons, if_pos h]
                  rfl
                · rw [if_neg h, List.filter_cons, if_neg h]
                  rfl
              refine ⟨rfl, _, rfl, _, rfl, label, rfl, l8, _, rfl, _, _, rfl, rfl, hsz, _, rfl, l, _, rfl, .inl (SqL.of (em _ _ ln')), rfl, flat_strs _, ?_⟩
              show ∃ b, V.bl (!inV (.str (cut7 label ++ ⟨#[c]⟩)) (ns.map V.str)) = .bl b ∧ _
              rw [inV_strs]
              have eb : (!decide ((cut7 label ++ ⟨#[c]⟩ : Str) ∈ ns)) = decide ((cut7 label ++ ⟨#[c]⟩ : Str) ∉ ns) := by
                rw [Bool.eq_iff_iff]
                simp
              rw [eb]
              refine ⟨_, rfl, ?_⟩
              refine iteB (fun hb => ?_) (fun hb => ?_)
              · refine ⟨_, rfl, _, rfl, label, rfl, l8, _, rfl, _, _, rfl, rfl, hsz, _, Dm, ?_, em.put hD2, ?_⟩
                · rw [List.length_map, sizeLine_eq]
                  have := List.length_filter_le (fun y => decide (y ∉ ns)) ((cands label).take k)
                  rw [List.length_take] at this
                  have h26 : (cands label).length = 26 := by
                    unfold cands
                    rw [List.length_map, lets_len]
                  omega
                · rw [upd_same, snoc, if_pos hb, List.map_append]
                  rfl
              · refine ⟨em, ?_⟩
                rw [snoc, if_neg (by rw [hb]; exact Bool.false_ne_true), List.append_nil]
                exact Dm
            · obtain ⟨em, Dm⟩ := hPm
              have h26 : (cands label).length = LETTERS.cps.size := by
                unfold cands
                rw [List.length_map, lets_len]
                decide +kernel
              rw [← h26, List.take_length] at Dm
              have nfree := cands_free (z := label) (ns := ns) (by omega)
              cases hf : (cands label).filter (fun y => decide (y ∉ ns)) with
              | nil => exact absurd hf nfree
              | cons z r =>
                rw [hf] at Dm
                have hz : z ∈ (cands label).filter (fun y => decide (y ∉ ns)) := by
                  rw [hf]
                  exact .head _
                obtain ⟨hz1, hz2⟩ := List.mem_filter.mp hz
                obtain ⟨i0, i0', i1, i2, i3, i4, i5⟩ := inv Hm z em.p (pn.ex em) (cands_name lab hz1) (of_decide_eq_true hz2)
                exact ⟨D2, _, _, V.str z, rfl, rfl, SqL.of Dm, atI_zero, _, rfl, .inl ⟨rfl, _, SqL.of i0⟩, _, rfl, l, _, _, rfl, rfl, i0, i0', ns ++ [z], _, _, i1, i2, i3, i4, i5, rfl⟩
          · obtain ⟨i0, i0', i1, i2, i3, i4, i5⟩ := inv Hn label (ExP.refl p Hn) pn lab (of_decide_eq_false hin)
            exact ⟨_, rfl, .inl ⟨rfl, _, SqL.of i0⟩, _, rfl, l, _, _, rfl, rfl, i0, i0', ns ++ [label], _, _, i1, i2, i3, i4, i5, rfl⟩
    · obtain ⟨ns, v, w, ec, pc, lc, ln, nok, rfl⟩ := hP
      exact ⟨_, rfl, q Hc l ns ec pc hl lc (by rw [ln]) nok⟩
end
end U
/-! ## the law: _law_kinds -/
namespace U
open PySem PySem.Spec PyProof.Rows L2 StX TL
section
variable {W : Wd}
theorem pick_go {H H0 : Hp} {p l : Addr} {xs : List V} {Q : VK} (e0 : ExP p H0 H) (hp : Pot H p) (hl : H l = none) (hx : xs ≠ []) (hz : xs.length ≤ 1000) (k : ∀ H' v, v ∈ xs → ExP p H0 H' → Pot H' p → Q v H') : sp_law_pick [.ref p, .ref l] (upd H l (.lst xs)) Q E0 :=
  ⟨p, l, xs, rfl, hp.ex ((Ex.refl H).more hl), upd_same, (hp.ne hl).symm, hx, hz, fun H' v hv e h => k H' v hv (e0.trans ((((Ex.refl H).more hl).p).trans e)) h⟩
theorem draw_go {H H0 : Hp} {p : Addr} {n : Int} {Q : VK} (e0 : ExP p H0 H) (hp : Pot H p) (h1 : 1 ≤ n) (h2 : n ≤ 1000000) (k : ∀ H' d, 0 ≤ d → d < n → ExP p H0 H' → Pot H' p → Q (.int d) H') : sp_law_draw [.ref p, .int n] H Q E0 :=
  ⟨p, n, rfl, hp, h1, h2, fun H' d d0 dn e h => k H' d d0 dn (e0.trans e) h⟩
/-- the kinds by their names -/
abbrev KEnt := Addr × KindD
def keK (es : List KEnt) : List (Key × V) := es.map fun e => (Sum.inr e.2.name, .ref e.1)
theorem ke_none {n : Str} : ∀ {es : List KEnt}, (∀ e ∈ es, e.2.name ≠ n) → valV (keK es) (Sum.inr n) = none
  | [], _ => rfl
  | e :: r, h => (valV_neg (p := ((Sum.inr e.2.name : Key), V.ref e.1)) (fun z => h e (.head _) (Sum.inr.inj z))).trans (ke_none fun u hu => h u (.tail _ hu))
structure KindsAt (H : Hp) (d : Addr) (es : List KEnt) : Prop where
  dk : H d = some (.dK (keK es))
  tp : ∀ e ∈ es, H e.1 = some (.tup (partsV e.2))
  nd : (es.map (·.2.name)).Nodup
  ok : ∀ e ∈ es, e.2.ok = true
  few : es.length ≤ 5
  some_ : es ≠ []
abbrev kN : List Str := ["_law_pot_here", "_law_many", "_law_found", "_law_label", "_law_byt", "_law_low", "_law_top", "_law_wide", "_law_sort", "_law_edge"]
theorem sc_law_kinds : FnScope kN ["_law_pot_here", "_law_many"] (defScope s__law_kinds) := ⟨rfl, rfl, rfl, by decide +kernel, rfl, by decide +kernel, by decide +kernel⟩
def sp_law_kinds : Sp := fun vs H Q _ => ∃ (p : Addr) (n : Int), vs = [.ref p, .int n] ∧ Pot H p ∧ 1 ≤ n ∧ n ≤ 5 ∧ ∀ H' d es, ExP p H H' → Pot H' p → H d = none → KindsAt H' d es → Q (.ref d) H'
theorem ok_law_kinds (T : Tx W) : Fn W CX0 3 (ga W.K "_law_kinds") ["_law_pot_here", "_law_many"] sp_law_kinds := by
  obtain ⟨fd, F⟩ := T.d__law_kinds
  refine ⟨⟨fd, ?_, F.bindsN fun _ _ _ _ _ _ us hl => match us, hl with | [_, _], _ => rfl⟩, F.kp⟩
  refine F.ok sc_law_kinds (fun vs H Q E h => ?_) (fun cdv A outer s H vs Q E hr h => ?_)
  · obtain ⟨p, n, rfl, _⟩ := h
    rfl
  · obtain ⟨p, n, rfl, hp, n1, n5, q⟩ := h
    have nd := sc_law_kinds.nd
    refine ⟨_, PSs.nox (pss_cons (ps_set (i := 2) nd rfl (Or.inl rfl) pe_dnewK)
      (pss_cons (ps_for PassesOwn.never rfl (pi_list (u_call (ok_law_named T) T.g__law_named hr (pa_cons (pv 0) (pa_cons (pv 1) pa_nil)))) (pg_name (i := 3) nd rfl (Or.inl rfl))
        (pss_cons (ps_set (i := 4) nd rfl (Or.inl rfl) (u_call (ok_law_pick T) T.g__law_pick hr (pa_cons (pv 0) (pa_cons (pe_lst (pa_cons pe_int (pa_cons pe_int (pa_cons pe_int (pa_cons pe_int (pa_cons pe_int (pa_cons pe_int pa_nil))))))) pa_nil))))
        (pss_cons (ps_par (i := 5) (j := 6) (by rfl) nd rfl rfl (by decide) rfl rfl (pa_cons (pe_op op_add pe_int (pe_op op_mul pe_int (pe_callTy call_int1 (by rfl) T.f_int (by decide +kernel) (pa_cons (pe_cmpR op_eq (pv 4) pe_int (nomark _)) pa_nil)))) (pa_cons (pe_op op_mul pe_int (pv 4)) pa_nil)) (by rfl))
        (pss_cons (ps_set (i := 7) nd rfl (Or.inl rfl) (u_call (ok_law_pick T) T.g__law_pick hr (pa_cons (pv 0) (pa_cons (pe_lst (pa_cons (pv 6) (pa_cons (pv 6) (pa_cons (pv 5) (pa_cons (pe_op op_sub (pv 6) pe_int) (pa_cons (pe_op op_add (pv 5) (u_call (ok_law_draw T) T.g__law_draw hr (pa_cons (pv 0) (pa_cons (pe_op op_add (pe_op op_sub (pv 6) (pv 5)) pe_int) pa_nil)))) pa_nil)))))) pa_nil))))
        (pss_cons (ps_par (i := 8) (j := 9) (by rfl) nd rfl rfl (by decide) rfl rfl (pa_cons (u_call (ok_law_pick T) T.g__law_pick hr (pa_cons (pv 0) (pa_cons (pe_lst (pa_cons pe_str (pa_cons pe_str (pa_cons pe_str pa_nil)))) pa_nil))) (pa_cons (u_call (ok_law_pick T) T.g__law_pick hr (pa_cons (pv 0) (pa_cons (pe_lst (pa_cons (pv 4) (pa_cons (pv 4) (pa_cons pe_int (pa_cons pe_int (pa_cons pe_int pa_nil)))))) pa_nil))) pa_nil)) (by rfl))
        (pss_one (ps_dput (hu_of hr) (pv 2) (pv 3) (pe_tup (pa_cons (pv 3) (pa_cons (pv 8) (pa_cons (pv 4) (pa_cons (pv 7) (pa_cons (pv 9) pa_nil)))))) rfl)))))))
      (pss_one (ps_ret (pv 2))))), ?_⟩
    refine fun f hf => ?_
    have pf := hp.ne hf
    have e0 : ExP p H (upd H f (.dK [])) := ((Ex.refl H).more hf).p
    have f0 := upd_same (H := H) (a := f) (o := .dK [])
    have hp0 := hp.ex ((Ex.refl H).more (o := .dK []) hf)
    change tSeq _ _ _ _ (upd H f (.dK []))
    generalize upd H f (.dK []) = H0 at e0 f0 hp0 ⊢
    refine ⟨_, rfl, _, rfl, p, n, rfl, hp0, n1, n5, fun H1 l ns e1 p1 nl hl hn nok => ⟨l, rfl, ⟨_, SqL.of hl⟩, ?_⟩⟩
    have f1 := e1 f _ pf.symm f0
    have lp : l ≠ p := fun z => hp0.some (z ▸ nl)
    have lf : l ≠ f := fun z => by
      rw [z, f0] at nl
      cases nl
    have e01 := e0.trans e1
    have ln5 : ns.length ≤ 5 := by omega
    refine for_it (walk_list (xs := ns.map V.str)) (fun i σ Hc => ∃ (es : List KEnt) (a3 a4 a5 a6 a7 a8 a9 : Option V), ExP p H Hc ∧ Pot Hc p ∧ Hc l = some (.lst (ns.map V.str)) ∧ Hc f = some (.dK (keK es)) ∧ (∀ e ∈ es, Hc e.1 = some (.tup (partsV e.2))) ∧ (∀ e ∈ es, e.2.ok = true) ∧ es.map (·.2.name) = ns.take i ∧
        σ = [some (.ref p), some (.int n), some (.ref f), a3, a4, a5, a6, a7, a8, a9]) ⟨[], none, none, none, none, none, none, none, e01, p1, hl, f1, fun e h => absurd h List.not_mem_nil, fun e h => absurd h List.not_mem_nil, rfl, rfl⟩
      (fun i σ Hc _ h => let ⟨_, _, _, _, _, _, _, _, _, _, h, _⟩ := h; SqL.of h) (fun i y σ Hc H2 hi hP hY => ?_) (fun σ Hc hP => ?_)
    · obtain ⟨es, a3, a4, a5, a6, a7, a8, a9, ec, pc, lc, fc, tp, ok, en, rfl⟩ := hP
      obtain ⟨rfl, hy⟩ := hY
      obtain ⟨nm, hnm, rfl⟩ : ∃ nm, ns[i]? = some nm ∧ y = .str nm := by
        rw [List.getElem?_map] at hy
        cases e : ns[i]? with
        | none =>
          rw [e] at hy
          cases hy
        | some n =>
          rw [e] at hy
          exact ⟨n, rfl, (Option.some.inj hy).symm⟩
      have nmok : isName nm = true := nok.2 nm (List.mem_of_getElem? hnm)
      refine ⟨_, rfl, by show 6 ≤ sizeLine; decide, fun l1 hl1 => pick_go (ExP.refl p H2) pc hl1 (by simp) (by show 6 ≤ 1000; decide) (fun H3 v hv e3 p3 => ?_)⟩
      obtain ⟨b, rfl, hb⟩ : ∃ b : Int, v = .int b ∧ (b = 1 ∨ b = 2 ∨ b = 4 ∨ b = 8 ∨ b = 16) := by
        simp only [List.mem_cons, List.not_mem_nil, or_false] at hv
        rcases hv with h | h | h | h | h | h <;> exact ⟨_, h, by decide⟩
      refine ⟨_, rfl, rfl, .inr ⟨_, rfl, _, _, rfl, rfl, .inl ⟨by decide, by decide⟩, _, _, rfl, rfl, _, rfl, _, _, rfl, rfl, .inl ⟨by decide, by decide⟩, _, _, rfl, ?_⟩⟩
      rw [eI]
      have hlow : (2 : Int) + 63 * (if decide (b = 16) = true then 1 else 0) = if b = 16 then 65 else 2 := by
        rcases hb with h | h | h | h | h <;> subst h <;> decide
      dsimp only
      rw [hlow]
      generalize hL : (if b = 16 then (65 : Int) else 2) = L
      have hLb : 2 ≤ L ∧ L < 8 * b := by
        rw [← hL]
        rcases hb with h | h | h | h | h <;> subst h <;> decide
      refine ⟨_, rfl, _, rfl, _, rfl, _, rfl, _, rfl, _, _, rfl, rfl, _, rfl, _, rfl, _, rfl, _, rfl, _, _, rfl, rfl, _, _, rfl, rfl, p, _, rfl, p3, by omega, by omega, fun H4 d d0 dn e4 p4 => ⟨_, _, rfl, rfl, by show 5 ≤ sizeLine; decide, fun l2 hl2 => pick_go (e3.trans e4) p4 hl2 (by simp) (by show 5 ≤ 1000; decide) (fun H5 w hw e5 p5 => ?_)⟩⟩
      obtain ⟨wd, rfl, hw1, hw2⟩ : ∃ wd : Int, w = .int wd ∧ L ≤ wd ∧ wd ≤ 8 * b := by
        simp only [List.mem_cons, List.not_mem_nil, or_false] at hw
        rcases hw with h | h | h | h | h <;> exact ⟨_, h, by omega, by omega⟩
      refine ⟨_, rfl, by show 3 ≤ sizeLine; decide, fun l3 hl3 => pick_go e5 p5 hl3 (by simp) (by show 3 ≤ 1000; decide) (fun H6 g hg e6 p6 => ?_)⟩
      obtain ⟨gz, rfl, hgz⟩ : ∃ gz : Str, g = .str gz ∧ isGroup gz = true := by
        simp only [List.mem_cons, List.not_mem_nil, or_false] at hg
        rcases hg with h | h | h <;> exact ⟨_, h, by decide +kernel⟩
      refine ⟨_, rfl, _, rfl, _, rfl, by show 5 ≤ sizeLine; decide, fun l4 hl4 => pick_go e6 p6 hl4 (by simp) (by show 5 ≤ 1000; decide) (fun H7 a ha e7 p7 => ?_)⟩
      have hsz : isSize (.int b) = true := by
        rcases hb with h | h | h | h | h <;> subst h <;> decide +kernel
      obtain ⟨al, rfl, hal⟩ : ∃ al : Int, a = .int al ∧ isSize (.int al) = true := by
        simp only [List.mem_cons, List.not_mem_nil, or_false] at ha
        rcases ha with h | h | h | h | h
        · exact ⟨_, h, hsz⟩
        · exact ⟨_, h, hsz⟩
        · exact ⟨_, h, by decide +kernel⟩
        · exact ⟨_, h, by decide +kernel⟩
        · exact ⟨_, h, by decide +kernel⟩
      refine ⟨_, _, rfl, ?_⟩
      refine ⟨_, rfl, _, rfl, _, rfl, _, rfl, _, rfl, by show 5 ≤ sizeLine; decide, fun t ht => ?_⟩
      have f7 := e7 f _ pf.symm fc
      have ft := ne_of_none f7 ht
      have hE : es.length < 6 := by
        have := congrArg List.length en
        rw [List.length_map, List.length_take] at this
        omega
      refine ⟨_, rfl, _, rfl, f, _, rfl, DPut.k (k := Sum.inr nm) ((upd_ne ft).trans f7) (by
        unfold keK
        rw [List.length_map, sizeLine_eq]
        omega), ?_⟩
      have nin : ∀ e ∈ es, e.2.name ≠ nm := fun e he z => by
        have hm : nm ∈ ns.take i := by
          rw [← en, ← z]
          exact List.mem_map.mpr ⟨e, he, rfl⟩
        obtain ⟨j, hj, ej⟩ := List.mem_take_iff_getElem.mp hm
        obtain ⟨hi2, ei⟩ := List.getElem?_eq_some_iff.mp hnm
        have := List.nodup_iff_pairwise_ne.mp nok.1
        exact List.pairwise_iff_getElem.mp this j i (by omega) hi2 (by omega) (ej.trans ei.symm)
      rw [putK_new _ (ke_none nin)]
      have ep : keK es ++ [((Sum.inr nm : Key), V.ref t)] = keK (es ++ [(t, ⟨nm, gz, b, wd, al⟩)]) := by
        unfold keK
        rw [List.map_append]
        rfl
      rw [ep]
      have eH7 := ec.trans e7
      have l7 := e7 l _ lp lc
      refine ⟨es ++ [(t, ⟨nm, gz, b, wd, al⟩)], _, _, _, _, _, _, _, ?_, ?_, ?_, upd_same, ?_, ?_, ?_, rfl⟩
      · exact (eH7.trans (((Ex.refl H7).more ht).p)).put hf
      · exact (p7.ex ((Ex.refl H7).more ht)).put pf
      · rw [upd_ne lf, upd_ne (ne_of_none l7 ht)]
        exact l7
      · intro e he
        rcases List.mem_append.mp he with h | h
        · have h1 := e7 e.1 _ (p7.ne_of (e7 e.1 _ (pc.ne_of (tp e h) (by intro _ z; cases z)) (tp e h)) (by intro _ z; cases z)) (tp e h)
          rw [upd_ne (ne_of (tp e h) fc (by intro z; cases z)), upd_ne (ne_of_none h1 ht)]
          exact h1
        · rw [List.mem_singleton.mp h]
          rw [upd_ne ft.symm, upd_same]
          rfl
      · intro e he
        rcases List.mem_append.mp he with h | h
        · exact ok e h
        · rw [List.mem_singleton.mp h]
          show (isName nm && (isGroup gz && (isSize (.int b) && (isWidth (.int wd) b && isSize (.int al))))) = true
          have hwid : isWidth (.int wd) b = true := by
            show (decide ((if b = 16 then 65 else 2) ≤ wd) && decide (wd ≤ 8 * b)) = true
            rw [hL, decide_eq_true hw1, decide_eq_true hw2]
            rfl
          rw [nmok, hgz, hsz, hwid, hal]
          rfl
      · rw [List.map_append, en]
        exact take_get hnm
    · obtain ⟨es, a3, a4, a5, a6, a7, a8, a9, ec, pc, lc, fc, tp, ok, en, rfl⟩ := hP
      rw [List.length_map, List.take_length] at en
      have el : es.length = ns.length := by
        rw [← en, List.length_map]
      refine ⟨_, rfl, q Hc f es ec pc hf ⟨fc, tp, by rw [en]; exact nok.1, ok, by omega, fun z => ?_⟩⟩
      rw [z] at el
      have : ns.length = 0 := el.symm
      omega
end
end U
/-! ## the law: _law_book -/
namespace U
open PySem PySem.Spec PyProof.Rows L2 StX TL
section
variable {W : Wd}
theorem Ex.unlock {H H' : Hp} {d : Addr} {od : Obj} {u : HO} (e : Ex (upd H d (.frz od u)) H') (h : H d = some u) : Ex H (upd H' d u) := fun a o ha => by
  by_cases q : a = d
  · rw [q] at ha ⊢
    rw [upd_same, ← h]
    exact ha
  · rw [upd_ne q]
    refine e a o ?_
    rw [upd_ne q]
    exact ha
abbrev bkN : List Str := ["_law_kinds_here", "_law_found", "_law_label", "_law_sort", "_law_byt", "_law_wide", "_law_edge", "_law_made"]
theorem sc_law_book : FnScope bkN ["_law_kinds_here"] (defScope s__law_book) := ⟨rfl, rfl, rfl, by decide +kernel, rfl, by decide +kernel, by decide +kernel⟩
def sp_law_book (K : Fg) : Sp := fun vs H Q _ => ∃ (d : Addr) (es : List KEnt), vs = [.ref d] ∧ KindsAt H d es ∧ ∀ H' b as, Ex H H' → BookAt K H' b as (es.map (·.2)) → Q (.ref b) H'
theorem BookAt.frz {K : Fg} {H : Hp} {b d : Addr} {as : List Addr} {ks : List KindD} {kvs : List (Key × V)} {od : Obj} (x : BookAt K (upd H d (.frz od (.dK kvs))) b as ks) : BookAt K (upd H d (.dK kvs)) b as ks := by
  have e : ∀ {c : Addr} {o : HO}, upd H d (.frz od (.dK kvs)) c = some o → (∀ od u, o ≠ .frz od u) → upd H d (.dK kvs) c = some o := fun {c o} h n => by
    by_cases q : c = d
    · rw [q, upd_same] at h
      exact absurd (Option.some.inj h).symm (n _ _)
    · rw [upd_ne q] at h ⊢
      exact h
  obtain ⟨⟨dx, p, q, r, rs, h1, h2, h3, h4, h5⟩, hk, few, some_, nd, ok⟩ := x
  exact ⟨⟨dx, p, q, r, rs, e h1 (by intro _ _ z; cases z), e h2 (by intro _ _ z; cases z), e h3 (by intro _ _ z; cases z), e h4 (by intro _ _ z; cases z), paired_mono (fun _ _ h => e h (by intro _ _ z; cases z)) h5⟩, paired_mono (fun _ _ ⟨dk, h⟩ => ⟨dk, e h (by intro _ _ z; cases z)⟩) hk, few, some_, nd, ok⟩
theorem frz_put {H : Hp} {d : Addr} {od : Obj} {u : HO} (h : H d = some (.frz od u)) : upd H d (.frz od u) = H := by
  funext a
  by_cases q : a = d
  · rw [q, upd_same, h]
  · rw [upd_ne q]
theorem ok_law_book (T : Tx W) : Fn W CX0 6 (ga W.K "_law_book") ["_law_kinds_here"] (sp_law_book W.K) := by
  obtain ⟨fd, F⟩ := T.d__law_book
  obtain ⟨fdK, FK, g, gV, hKB, rfl⟩ := ok_Kind_init T
  obtain ⟨fdA, FA, bA⟩ := (ok_Book_add T).ex
  refine ⟨⟨fd, ?_, F.bindsN fun _ _ _ _ _ _ us hl => match us, hl with | [_], _ => rfl⟩, F.kp⟩
  refine F.ok sc_law_book (fun vs H Q E h => ?_) (fun cdv A outer s H vs Q E hr h => ?_)
  · obtain ⟨d, es, rfl, _⟩ := h
    rfl
  · obtain ⟨d, es, rfl, ⟨hd, tp, nd, ok, few, some_⟩, q⟩ := h
    have nN := sc_law_book.nd
    refine ⟨_, PSs.nox (pss_cons (ps_set (i := 1) nN rfl (Or.inl rfl) (pe_lst pa_nil))
      (pss_cons (ps_lock (ps_for PassesOwn.never rfl (pi_values (pv 0)) (pg_tup rfl (pgs_cons (pg_name (i := 2) nN rfl (Or.inl rfl)) (pgs_cons (pg_name (i := 3) nN rfl (Or.inl rfl)) (pgs_cons (pg_name (i := 4) nN rfl (Or.inl rfl)) (pgs_cons (pg_name (i := 5) nN rfl (Or.inl rfl)) (pgs_cons (pg_name (i := 6) nN rfl (Or.inl rfl)) pgs_nil))))))
        (pss_cons (ps_set (i := 7) nN rfl (Or.inl rfl) (pe_makeK T.mk_Kind FK (hr.mono (by decide)) (by rfl) T.g_Kind hKB pass0 (pa_cons (pv 2) (pa_cons (pv 3) pa_nil)) (pk_cons (pv 4) (pk_cons (pv 5) (pk_cons (pv 6) pk_nil)))))
        (pss_one (ps_set (i := 1) nN rfl (Or.inl rfl) (pe_ifExp (pt_cmpR (op_ne_list0 hr.units0) (pv 1) (pe_lst pa_nil) (nomark _)) (pe_lst (pa_cons (pe_op (op_ownAdd T.add_Book_Kind FA (hr.mono (by decide)) bA) (pe_ix ix_list (pv 1) pe_int (fun _ _ => rfl)) (pv 7)) pa_nil))
          (pe_lst (pa_cons (pe_makeR T.mk_Book (ok_Book_init T) (hr.mono (by decide)) (by rfl) T.g_Book pass0 (pa_cons (pv 7) pa_nil)) pa_nil))))))))
      (pss_one (ps_ret (pe_ix ix_list (pv 1) pe_int (fun _ _ => rfl)))))), ?_⟩
    refine ⟨by show 0 ≤ sizeLine; decide, fun l0 hl0 => ?_⟩
    have dl0 := ne_of_none hd hl0
    have hd1 : upd H l0 (.lst []) d = some (.dK (keK es)) := (upd_ne dl0).trans hd
    refine ⟨d, _, hd1, True.intro, fun od => ⟨_, rfl, d, od, _, rfl, upd_same, ?_⟩⟩
    have lk : (keK es).length = es.length := by
      unfold keK
      rw [List.length_map]
    have tpL : ∀ e ∈ es, upd (upd H l0 (.lst [])) d (.frz od (.dK (keK es))) e.1 = some (.tup (partsV e.2)) := fun e he => by
      rw [upd_ne (ne_of (tp e he) hd (by intro z; cases z)), upd_ne (ne_of_none (tp e he) hl0)]
      exact tp e he
    have l0L : upd (upd H l0 (.lst [])) d (.frz od (.dK (keK es))) l0 = some (.lst []) := (upd_ne dl0.symm).trans upd_same
    have ex0 : ∀ {H'}, Ex (upd (upd H l0 (.lst [])) d (.frz od (.dK (keK es)))) H' → Ex H (upd H' d (.dK (keK es))) := fun e => ((Ex.refl H).more hl0).trans (e.unlock hd1)
    have dL := upd_same (H := upd H l0 (.lst [])) (a := d) (o := .frz od (.dK (keK es)))
    generalize upd (upd H l0 (.lst [])) d (.frz od (.dK (keK es))) = HL at tpL l0L ex0 dL ⊢
    refine for_it (walk_values (kvs := keK es)) (fun i σ Hc => Ex HL Hc ∧ ∃ (l : Addr) (bs : List Addr) (a2 a3 a4 a5 a6 a7 : Option V), Hc l = some (.lst (bs.map V.ref)) ∧ ((i = 0 ∧ bs = []) ∨ ∃ b as, bs = [b] ∧ 0 < i ∧ BookAt W.K Hc b as ((es.take i).map (·.2))) ∧
        σ = [some (.ref d), some (.ref l), a2, a3, a4, a5, a6, a7]) ⟨Ex.refl HL, l0, [], none, none, none, none, none, none, l0L, .inl ⟨rfl, rfl⟩, rfl⟩ (fun i σ Hc _ h => h.1 _ _ dL) (fun i y σ Hc H2 hi hP hY => ?_) (fun σ Hc hP => ?_)
    · obtain ⟨ec, l, bs, a2, a3, a4, a5, a6, a7, hl, hb, rfl⟩ := hP
      obtain ⟨rfl, k, hk⟩ := hY
      obtain ⟨e, he, rfl⟩ : ∃ e, es[i]? = some e ∧ y = .ref e.1 := by
        unfold keK at hk
        rw [List.getElem?_map] at hk
        cases z : es[i]? with
        | none =>
          rw [z] at hk
          cases hk
        | some e =>
          rw [z] at hk
          exact ⟨e, rfl, (congrArg Prod.snd (Option.some.inj hk)).symm⟩
      have hm := List.mem_of_getElem? he
      have okk := ok e hm
      refine ⟨e.1, _, rfl, SqT.of (ec _ _ (tpL e hm)), rfl, _, _, rfl, _, _, rfl, _, _, rfl, _, _, rfl, _, _, rfl, rfl, ?_⟩
      refine ⟨_, rfl, _, rfl, _, rfl, _, rfl, _, rfl, rfl, rfl, fun x dx nx ndx ne => ?_⟩
      refine ⟨x, dx, e.2, rfl, okk, by have := (kind_le okk).1; omega, upd_same, fun H8 e8 => ⟨rfl, ?_⟩⟩
      have e9 : Ex H2 (upd H8 x (.ins (ga W.K "Kind") dx (kindF e.2))) := fun u o hu => by
        rw [upd_ne (ne_of_none hu nx)]
        refine e8 u o ?_
        rw [upd_ne (ne_of_none hu nx), upd_ne (ne_of_none hu ndx)]
        exact hu
      have hK : KindAt W.K (upd H8 x (.ins (ga W.K "Kind") dx (kindF e.2))) x e.2 := ⟨dx, upd_same⟩
      generalize upd H8 x (.ins (ga W.K "Kind") dx (kindF e.2)) = H9 at e9 hK ⊢
      have eL := ec.trans e9
      have et := take_get he
      have l9 := e9 _ _ hl
      refine ⟨_, rfl, by show 0 ≤ sizeLine; decide, fun l2 hl2 => ?_⟩
      have e10 : Ex H9 (upd H9 l2 (.lst [])) := (Ex.refl H9).more hl2
      refine ⟨l, l2, bs.map V.ref, rfl, rfl, SqL.of (e10 _ _ l9), SqL.of upd_same, _, rfl, ?_⟩
      obtain ⟨dk, hKx⟩ := hK
      have hKx2 := e10 _ _ hKx
      have eL2 := eL.trans e10
      have l10 := e10 _ _ l9
      rcases hb with ⟨rfl, rfl⟩ | ⟨b, as, rfl, i0, hB⟩
      · refine ⟨_, rfl, fun y dy ny ndy ney => ?_⟩
        have e11 : ∀ {u : Addr} {o : HO}, upd H9 l2 (.lst []) u = some o → upd (upd (upd H9 l2 (.lst [])) dy (.own y)) y (.ins (ga W.K "Book") dy []) u = some o := fun {u o} h => by
          rw [upd_ne (ne_of_none h ny), upd_ne (ne_of_none h ndy)]
          exact h
        refine ⟨y, dy, [x], [e.2], rfl, upd_same, .cons ⟨dk, e11 hKx2⟩ .nil, by show 1 ≤ 5; decide, by simp, by simp, fun k hk => by rw [List.mem_singleton.mp hk]; exact okk, fun H' eB hB => ⟨rfl, by show 1 ≤ sizeLine; decide, fun l3 hl3 => ?_⟩⟩
        have e12 : Ex (upd H9 l2 (.lst [])) H' := fun u o h => eB u o (ne_of_none h ny) (e11 h)
        refine ⟨(eL2.trans e12).more hl3, l3, [y], _, _, _, _, _, _, upd_same, .inr ⟨y, [x], rfl, by omega, ?_⟩, rfl⟩
        have e13 : (es.take (0 + 1)).map (·.2) = [e.2] := by
          rw [← et]
          rfl
        rw [e13]
        exact hB.ex_mono ((Ex.refl H').more hl3)
      · have hB2 := hB.ex_mono (e9.trans e10)
        obtain ⟨dxb, pb, qb, rb, rsb, hb1, _⟩ := hB2.ex
        have il : i < es.length := by rw [← lk]; exact hi
        refine ⟨_, rfl, l, _, _, V.ref b, rfl, rfl, SqL.of l10, rfl, _, rfl, b, dxb, _, x, dk, _, rfl, rfl, hb1, hKx2, b, x, as, _, e.2, rfl, hB2, ⟨dk, hKx2⟩, ?_, ?_, okk, fun H' y e12 ny hB3 => ⟨⟨y, rfl⟩, by show 1 ≤ sizeLine; decide, fun l3 hl3 => ?_⟩⟩
        · rw [List.length_map, List.length_take]
          omega
        · intro hin
          rw [List.map_map] at hin
          obtain ⟨e', he', en⟩ := List.mem_map.mp hin
          obtain ⟨j, hj, ej⟩ := List.mem_take_iff_getElem.mp he'
          obtain ⟨hi2, ei⟩ := List.getElem?_eq_some_iff.mp he
          have := List.pairwise_iff_getElem.mp (List.nodup_iff_pairwise_ne.mp nd) j i (by rw [List.length_map]; omega) (by rw [List.length_map]; omega) (by omega)
          rw [List.getElem_map, List.getElem_map, ej, ei] at this
          exact this en
        · refine ⟨(eL2.trans e12).more hl3, l3, [y], _, _, _, _, _, _, upd_same, .inr ⟨y, as ++ [x], rfl, by omega, ?_⟩, rfl⟩
          rw [← et, List.map_append]
          exact hB3.ex_mono ((Ex.refl H').more hl3)
    · obtain ⟨ec, l, bs, a2, a3, a4, a5, a6, a7, hl, hb, rfl⟩ := hP
      have el : 0 < es.length := List.length_pos_iff.mpr some_
      rcases hb with ⟨z, _⟩ | ⟨b, as, rfl, i0, hB⟩
      · rw [lk] at z
        omega
      · rw [lk, List.take_length] at hB
        have hdc := ec _ _ dL
        have hl2 : upd Hc d (.dK (keK es)) l = some (.lst [V.ref b]) := by
          rw [upd_ne (ne_of hl hdc (by intro z; cases z))]
          exact hl
        refine ⟨hdc, _, rfl, l, _, _, V.ref b, rfl, rfl, SqL.of hl2, rfl, q _ b as (ex0 ec) ?_⟩
        have hB2 : BookAt W.K (upd Hc d (.frz od (.dK (keK es)))) b as (es.map (·.2)) := by
          rw [frz_put hdc]
          exact hB
        exact hB2.frz
end
end U
/-! ## the law: _law_plan -/
namespace U
open PySem PySem.Spec PyProof.Rows L2 StX TL
section
variable {W : Wd}
def topI (f : FillD) : Int := match f.ext with
  | .int i => i
  | _ => 0
def planF (f : FillD) : List V := [.str f.word, .int (topI f)]
structure PlanAt (H : Hp) (d : Addr) (c : ConvD) (es : List KEnt) : Prop where
  ex : ∃ (fp : Addr) (ps : List Ent), H d = some (.dK ((kw10.map Sum.inr).zip (valsC c (.ref fp)))) ∧ H fp = some (.dK (entK ps)) ∧ (∀ e ∈ ps, H e.2.1 = some (.tup (planF e.2.2))) ∧ ps.map (fun e => (e.1, e.2.2)) = es.map fun e => (e.2.name, c.fill e.2.name)
  ok : c.Ok
  fok : ∀ e ∈ es, (c.fill e.2.name).Ok
theorem told_self : ∀ {fl : List (Str × FillD)}, (fl.map (·.1)).Nodup → ∀ e ∈ fl, toldL fl e.1 = e.2
  | [], _, e, h => by cases h
  | x :: r, nd, e, h => by
    obtain ⟨h1, h2⟩ := List.nodup_cons.mp (show (x.1 :: r.map (·.1)).Nodup from nd)
    unfold toldL
    rw [List.find?_cons]
    rcases List.mem_cons.mp h with z | z
    · rw [z, show decide (x.1 = x.1) = true from decide_eq_true rfl]
    · have hne : x.1 ≠ e.1 := fun q => h1 (q ▸ List.mem_map.mpr ⟨e, z, rfl⟩)
      rw [show decide (x.1 = e.1) = false from decide_eq_false hne]
      exact told_self h2 e z
theorem told_map {fl : List (Str × FillD)} (nd : (fl.map (·.1)).Nodup) : fl = (fl.map (·.1)).map fun n => (n, toldL fl n) := by
  rw [List.map_map]
  conv => lhs; rw [← List.map_id fl]
  exact List.map_congr_left fun e he => by
    show e = (e.1, toldL fl e.1)
    rw [told_self nd e he]
abbrev pN : List Str := ["_law_pot_here", "_law_kinds_here", "_law_found", "_law_label", "_law_wide", "_law_top", "_law_word"]
theorem sc_law_plan : FnScope pN ["_law_pot_here", "_law_kinds_here"] (defScope s__law_plan) := ⟨rfl, rfl, rfl, by decide +kernel, rfl, by decide +kernel, by decide +kernel⟩
def sp_law_plan : Sp := fun vs H Q _ => ∃ (p d : Addr) (es : List KEnt), vs = [.ref p, .ref d] ∧ Pot H p ∧ KindsAt H d es ∧ ∀ H' q c, ExP p H H' → Pot H' p → PlanAt H' q c es → Q (.ref q) H'
theorem ke_val {es : List KEnt} (nd : (es.map (·.2.name)).Nodup) {e : KEnt} (h : e ∈ es) : valV (keK es) (Sum.inr e.2.name) = some (.ref e.1) := by
  induction es with
  | nil => cases h
  | cons x r ih =>
    obtain ⟨h1, h2⟩ := List.nodup_cons.mp (show (x.2.name :: r.map (·.2.name)).Nodup from nd)
    rcases List.mem_cons.mp h with z | z
    · exact valV_pos (p := ((Sum.inr x.2.name : Key), V.ref x.1)) (by rw [z]) |>.trans (by rw [z])
    · exact (valV_neg (p := ((Sum.inr x.2.name : Key), V.ref x.1)) (fun q => h1 (Sum.inr.inj q ▸ List.mem_map.mpr ⟨e, z, rfl⟩))).trans (ih h2 z)
theorem ExP.unlock {p : Addr} {H H' : Hp} {d : Addr} {od : Obj} {u : HO} (e : ExP p (upd H d (.frz od u)) H') (h : H d = some u) : ExP p H (upd H' d u) := fun a o n ha => by
  by_cases q : a = d
  · rw [q] at ha ⊢
    rw [upd_same, ← h]
    exact ha
  · rw [upd_ne q]
    refine e a o n ?_
    rw [upd_ne q]
    exact ha
theorem ok_law_plan (T : Tx W) : Fn W CX0 3 (ga W.K "_law_plan") ["_law_pot_here", "_law_kinds_here"] sp_law_plan := by
  obtain ⟨fd, F⟩ := T.d__law_plan
  refine ⟨⟨fd, ?_, F.bindsN fun _ _ _ _ _ _ us hl => match us, hl with | [_, _], _ => rfl⟩, F.kp⟩
  refine F.ok sc_law_plan (fun vs H Q E h => ?_) (fun cdv A outer s H vs Q E hr h => ?_)
  · obtain ⟨p, d, es, rfl, _⟩ := h
    rfl
  · obtain ⟨p, d, es, rfl, hp, ⟨hd, tp, nd, ok, few, some_⟩, q⟩ := h
    have nN := sc_law_plan.nd
    refine ⟨_, PSs.nox (pss_cons (ps_set (i := 2) nN rfl (Or.inl rfl) (pe_disp (pps_cons pe_str (u_call (ok_law_draw T) T.g__law_draw hr (pa_cons (pv 0) (pa_cons pe_int pa_nil))) (pps_cons pe_str (u_call (ok_law_draw T) T.g__law_draw hr (pa_cons (pv 0) (pa_cons pe_int pa_nil))) (pps_cons pe_str (pe_cmpR op_eq (u_call (ok_law_draw T) T.g__law_draw hr (pa_cons (pv 0) (pa_cons pe_int pa_nil))) pe_int (nomark _)) pps_nil))) rfl rfl (by simp) (by decide)))
      (pss_cons (ps_dput (hu_of hr) (pv 2) pe_str (u_call (ok_law_pick T) T.g__law_pick hr (pa_cons (pv 0) (pa_cons (pe_lst (pa_cons pe_str (pa_cons pe_str (pa_cons pe_str pa_nil)))) pa_nil))) rfl)
      (pss_cons (ps_asg (pe_tup (pa_cons (pe_cmpR op_eq (u_call (ok_law_draw T) T.g__law_draw hr (pa_cons (pv 0) (pa_cons pe_int pa_nil))) pe_int (nomark _)) (pa_cons (u_call (ok_law_pick T) T.g__law_pick hr (pa_cons (pv 0) (pa_cons (pe_lst (pa_cons pe_int (pa_cons pe_int pa_nil))) pa_nil))) pa_nil)))
          (pg_tup rfl (pgs_cons (pg_sub (pv 2) pe_str (set_dict (hu_of hr))) (pgs_cons (pg_sub (pv 2) pe_str (set_dict (hu_of hr))) pgs_nil))))
      (pss_cons (ps_asg (pe_tup (pa_cons (pe_cmpR op_gt (u_call (ok_law_draw T) T.g__law_draw hr (pa_cons (pv 0) (pa_cons pe_int pa_nil))) pe_int (nomark _)) (pa_cons (u_call (ok_law_pick T) T.g__law_pick hr (pa_cons (pv 0) (pa_cons (pe_lst (pa_cons pe_int (pa_cons pe_int (pa_cons pe_int (pa_cons pe_int pa_nil))))) pa_nil))) pa_nil)))
          (pg_tup rfl (pgs_cons (pg_sub (pv 2) pe_str (set_dict (hu_of hr))) (pgs_cons (pg_sub (pv 2) pe_str (set_dict (hu_of hr))) pgs_nil))))
      (pss_cons (ps_asg (pe_tup (pa_cons (u_call (ok_law_pick T) T.g__law_pick hr (pa_cons (pv 0) (pa_cons (pe_lst (pa_cons pe_str (pa_cons pe_str (pa_cons pe_str pa_nil)))) pa_nil))) (pa_cons pe_dnewK pa_nil)))
          (pg_tup rfl (pgs_cons (pg_sub (pv 2) pe_str (set_dict (hu_of hr))) (pgs_cons (pg_sub (pv 2) pe_str (set_dict (hu_of hr))) pgs_nil))))
      (pss_cons (ps_lock (ps_for PassesOwn.never rfl (pi_keys (pv 1)) (pg_name (i := 3) nN rfl (Or.inl rfl))
        (pss_cons (ps_set (i := 4) nN rfl (Or.inl rfl) (pe_ix ix_tup (pe_dget (hu_of hr) (pv 1) (pv 3) (fun _ _ => rfl)) pe_int (fun _ _ => rfl)))
        (pss_cons (ps_set (i := 5) nN rfl (Or.inl rfl) (u_call (ok_law_pick T) T.g__law_pick hr (pa_cons (pv 0) (pa_cons (pe_lst (pa_cons pe_int (pa_cons pe_int (pa_cons pe_int (pa_cons (pv 4) (pa_cons (pe_op op_add (pv 4) pe_int) (pa_cons (pe_op op_mul pe_int (pe_ix ix_tup (pe_dget (hu_of hr) (pv 1) (pv 3) (fun _ _ => rfl)) pe_int (fun _ _ => rfl)))
            (pa_cons (pe_op op_add pe_int (u_call (ok_law_draw T) T.g__law_draw hr (pa_cons (pv 0) (pa_cons pe_int pa_nil)))) pa_nil)))))))) pa_nil))))
        (pss_cons (ps_set (i := 6) nN rfl (Or.inl rfl) (u_call (ok_law_pick T) T.g__law_pick hr (pa_cons (pv 0) (pa_cons (pe_lst (pa_cons pe_str (pa_cons pe_str (pa_cons pe_str pa_nil)))) pa_nil))))
        (pss_one (ps_dput (hu_of hr) (pe_dget (hu_of hr) (pv 2) pe_str (fun _ _ => rfl)) (pv 3) (pe_tup (pa_cons (pv 6) (pa_cons (pe_ifExp (pt_cmpR op_eq (pv 6) pe_str (nomark _)) pe_int (pe_callB (call_max2 rfl) (by rfl) T.f_max (by decide +kernel) (pa_cons pe_int (pa_cons (pe_callB (call_min2 rfl) (by rfl) T.f_min (by decide +kernel) (pa_cons pe_int (pa_cons (pe_callTy call_int1 (by rfl) T.f_int (by decide +kernel) (pa_cons (pv 5) pa_nil)) pa_nil))) pa_nil)))) pa_nil))) rfl)))))))
      (pss_one (ps_ret (pv 2))))))))), ?_⟩
    refine fun f hf => ?_
    have pf := hp.ne hf
    have fp := pf.symm
    have hp0 := hp.ex ((Ex.refl H).more (o := .dK []) hf)
    have e0 : ExP p H (upd H f (.dK [])) := ((Ex.refl H).more hf).p
    have f0 := upd_same (H := H) (a := f) (o := .dK [])
    generalize upd H f (.dK []) = H0 at hp0 e0 f0 ⊢
    refine ⟨_, rfl, p, 4, rfl, hp0, by decide, by decide, fun H1 w w0 w4 e1 p1 => ⟨_, rfl, p, 4, rfl, p1, by decide, by decide, fun H2 g g0 g4 e2 p2 => ⟨_, rfl, p, 3, rfl, p2, by decide, by decide, fun H3 t t0 t3 e3 p3 => ⟨rfl, ?_⟩⟩⟩⟩
    rw [eI]
    generalize decide (t = 0) = tb
    refine ⟨e3 f _ fp (e2 f _ fp (e1 f _ fp f0)), [((Sum.inr "wholes" : Key), V.int w), (Sum.inr "floats", .int g), (Sum.inr "together", .bl tb)], rfl, (by show 3 ≤ 15; decide), ?_⟩
    rw [show mergeK [] [((Sum.inr "wholes" : Key), V.int w), ((Sum.inr "floats" : Key), V.int g), ((Sum.inr "together" : Key), V.bl tb)] = [((Sum.inr "wholes" : Key), V.int w), ((Sum.inr "floats" : Key), V.int g), ((Sum.inr "together" : Key), V.bl tb)] by kernel_rfl]
    have eA := ((((e0.trans e1).trans e2).trans e3).put (u := .dK [((Sum.inr "wholes" : Key), V.int w), ((Sum.inr "floats" : Key), V.int g), ((Sum.inr "together" : Key), V.bl tb)]) hf)
    have pA := p3.put (u := .dK [((Sum.inr "wholes" : Key), V.int w), ((Sum.inr "floats" : Key), V.int g), ((Sum.inr "together" : Key), V.bl tb)]) pf
    have fA := upd_same (H := H3) (a := f) (o := .dK [((Sum.inr "wholes" : Key), V.int w), ((Sum.inr "floats" : Key), V.int g), ((Sum.inr "together" : Key), V.bl tb)])
    generalize upd H3 f (.dK [((Sum.inr "wholes" : Key), V.int w), ((Sum.inr "floats" : Key), V.int g), ((Sum.inr "together" : Key), V.bl tb)]) = H4 at eA pA fA ⊢
    refine ⟨_, rfl, by show 3 ≤ sizeLine; decide, fun l1 hl1 => pick_go (ExP.refl p H4) pA hl1 (by simp) (by show 3 ≤ 1000; decide) (fun H5 v hv e5 p5 => ?_)⟩
    obtain ⟨dz, rfl, hdz⟩ : ∃ z, v = .str z ∧ (z = Str.ofString "whole" ∨ z = Str.ofString "even" ∨ z = Str.ofString "split") := by
      simp only [List.mem_cons, List.not_mem_nil, or_false] at hv
      rcases hv with h | h | h
      · exact ⟨_, h, .inl rfl⟩
      · exact ⟨_, h, .inr (.inl rfl)⟩
      · exact ⟨_, h, .inr (.inr rfl)⟩
    refine ⟨_, rfl, f, _, rfl, DPut.k (k := Sum.inr (Str.ofString "doubles")) (e5 f _ fp fA) (by show 3 < sizeLine; decide), ?_⟩
    rw [show putK [((Sum.inr "wholes" : Key), V.int w), ((Sum.inr "floats" : Key), V.int g), ((Sum.inr "together" : Key), V.bl tb)] (Sum.inr (Str.ofString "doubles")) (V.str dz) = [((Sum.inr "wholes" : Key), V.int w), ((Sum.inr "floats" : Key), V.int g), ((Sum.inr "together" : Key), V.bl tb), ((Sum.inr "doubles" : Key), V.str dz)] by kernel_rfl]
    have eB := (eA.trans e5).put (u := .dK [((Sum.inr "wholes" : Key), V.int w), ((Sum.inr "floats" : Key), V.int g), ((Sum.inr "together" : Key), V.bl tb), ((Sum.inr "doubles" : Key), V.str dz)]) hf
    have pB := p5.put (u := .dK [((Sum.inr "wholes" : Key), V.int w), ((Sum.inr "floats" : Key), V.int g), ((Sum.inr "together" : Key), V.bl tb), ((Sum.inr "doubles" : Key), V.str dz)]) pf
    have fB := upd_same (H := H5) (a := f) (o := .dK [((Sum.inr "wholes" : Key), V.int w), ((Sum.inr "floats" : Key), V.int g), ((Sum.inr "together" : Key), V.bl tb), ((Sum.inr "doubles" : Key), V.str dz)])
    generalize upd H5 f (.dK [((Sum.inr "wholes" : Key), V.int w), ((Sum.inr "floats" : Key), V.int g), ((Sum.inr "together" : Key), V.bl tb), ((Sum.inr "doubles" : Key), V.str dz)]) = H6 at eB pB fB ⊢
    refine ⟨_, rfl, p, 2, rfl, pB, by decide, by decide, fun Ha1 dd1 _ _ ea1 pa1 => ⟨rfl, ?_⟩⟩
    rw [eI]
    generalize decide (dd1 = 0) = ab
    refine ⟨_, rfl, by show 2 ≤ sizeLine; decide, fun l hl => pick_go (ExP.refl p Ha1) pa1 hl (by simp) (by show 2 ≤ 1000; decide) (fun Hb1 v hv eb1 pb1 => ?_)⟩
    obtain ⟨sl, rfl, hsl⟩ : ∃ z : Int, v = .int z ∧ (z = 4 ∨ z = 8) := by
      simp only [List.mem_cons, List.not_mem_nil, or_false] at hv
      rcases hv with h | h
      · exact ⟨_, h, .inl rfl⟩
      · exact ⟨_, h, .inr rfl⟩
    refine ⟨by show 2 ≤ sizeLine; decide, fun t2 ht2 => ?_⟩
    have fb1 := eb1 f _ fp (ea1 f _ fp fB)
    have ft2 := ne_of_none fb1 ht2
    refine ⟨t2, _, rfl, SqT.of upd_same, rfl, _, _, rfl, ?_⟩
    refine ⟨_, rfl, f, _, rfl, DPut.k (k := Sum.inr (Str.ofString "again")) ((upd_ne ft2).trans fb1) (by show 4 < sizeLine; decide), ?_⟩
    rw [show putK [((Sum.inr "wholes" : Key), V.int w), ((Sum.inr "floats" : Key), V.int g), ((Sum.inr "together" : Key), V.bl tb), ((Sum.inr "doubles" : Key), V.str dz)] (Sum.inr (Str.ofString "again")) (V.bl ab) = [((Sum.inr "wholes" : Key), V.int w), ((Sum.inr "floats" : Key), V.int g), ((Sum.inr "together" : Key), V.bl tb), ((Sum.inr "doubles" : Key), V.str dz), ((Sum.inr "again" : Key), V.bl ab)] by kernel_rfl]
    refine ⟨_, _, rfl, _, rfl, f, _, rfl, DPut.k (k := Sum.inr (Str.ofString "slot")) upd_same (by show 5 < sizeLine; decide), rfl, ?_⟩
    rw [upd_upd, show putK [((Sum.inr "wholes" : Key), V.int w), ((Sum.inr "floats" : Key), V.int g), ((Sum.inr "together" : Key), V.bl tb), ((Sum.inr "doubles" : Key), V.str dz), ((Sum.inr "again" : Key), V.bl ab)] (Sum.inr (Str.ofString "slot")) (V.int sl) = [((Sum.inr "wholes" : Key), V.int w), ((Sum.inr "floats" : Key), V.int g), ((Sum.inr "together" : Key), V.bl tb), ((Sum.inr "doubles" : Key), V.str dz), ((Sum.inr "again" : Key), V.bl ab), ((Sum.inr "slot" : Key), V.int sl)] by kernel_rfl]
    have eC := (((eB.trans ea1).trans eb1).trans (((Ex.refl Hb1).more (o := .tup [V.bl ab, V.int sl]) ht2).p)).put (u := .dK [((Sum.inr "wholes" : Key), V.int w), ((Sum.inr "floats" : Key), V.int g), ((Sum.inr "together" : Key), V.bl tb), ((Sum.inr "doubles" : Key), V.str dz), ((Sum.inr "again" : Key), V.bl ab), ((Sum.inr "slot" : Key), V.int sl)]) hf
    have pC := (pb1.ex ((Ex.refl Hb1).more (o := .tup [V.bl ab, V.int sl]) ht2)).put (u := .dK [((Sum.inr "wholes" : Key), V.int w), ((Sum.inr "floats" : Key), V.int g), ((Sum.inr "together" : Key), V.bl tb), ((Sum.inr "doubles" : Key), V.str dz), ((Sum.inr "again" : Key), V.bl ab), ((Sum.inr "slot" : Key), V.int sl)]) pf
    have fC := upd_same (H := upd Hb1 t2 (.tup [V.bl ab, V.int sl])) (a := f) (o := .dK [((Sum.inr "wholes" : Key), V.int w), ((Sum.inr "floats" : Key), V.int g), ((Sum.inr "together" : Key), V.bl tb), ((Sum.inr "doubles" : Key), V.str dz), ((Sum.inr "again" : Key), V.bl ab), ((Sum.inr "slot" : Key), V.int sl)])
    generalize upd (upd Hb1 t2 (.tup [V.bl ab, V.int sl])) f (.dK [((Sum.inr "wholes" : Key), V.int w), ((Sum.inr "floats" : Key), V.int g), ((Sum.inr "together" : Key), V.bl tb), ((Sum.inr "doubles" : Key), V.str dz), ((Sum.inr "again" : Key), V.bl ab), ((Sum.inr "slot" : Key), V.int sl)]) = HC at eC pC fC ⊢
    refine ⟨_, rfl, p, 3, rfl, pC, by decide, by decide, fun Ha2 dd2 _ _ ea2 pa2 => ⟨_, _, rfl, rfl, ?_⟩⟩
    dsimp only
    generalize decide ((0 : Int) < dd2) = nb
    refine ⟨_, rfl, by show 4 ≤ sizeLine; decide, fun l hl => pick_go (ExP.refl p Ha2) pa2 hl (by simp) (by show 4 ≤ 1000; decide) (fun Hb2 v hv eb2 pb2 => ?_)⟩
    obtain ⟨hm, rfl, hhm⟩ : ∃ z : Int, v = .int z ∧ (z = 0 ∨ z = 16 ∨ z = 32) := by
      simp only [List.mem_cons, List.not_mem_nil, or_false] at hv
      rcases hv with h | h | h | h
      · exact ⟨_, h, .inl rfl⟩
      · exact ⟨_, h, .inl rfl⟩
      · exact ⟨_, h, .inr (.inl rfl)⟩
      · exact ⟨_, h, .inr (.inr rfl)⟩
    refine ⟨by show 2 ≤ sizeLine; decide, fun t2 ht2 => ?_⟩
    have fb2 := eb2 f _ fp (ea2 f _ fp fC)
    have ft2 := ne_of_none fb2 ht2
    refine ⟨t2, _, rfl, SqT.of upd_same, rfl, _, _, rfl, ?_⟩
    refine ⟨_, rfl, f, _, rfl, DPut.k (k := Sum.inr (Str.ofString "natural")) ((upd_ne ft2).trans fb2) (by show 6 < sizeLine; decide), ?_⟩
    rw [show putK [((Sum.inr "wholes" : Key), V.int w), ((Sum.inr "floats" : Key), V.int g), ((Sum.inr "together" : Key), V.bl tb), ((Sum.inr "doubles" : Key), V.str dz), ((Sum.inr "again" : Key), V.bl ab), ((Sum.inr "slot" : Key), V.int sl)] (Sum.inr (Str.ofString "natural")) (V.bl nb) = [((Sum.inr "wholes" : Key), V.int w), ((Sum.inr "floats" : Key), V.int g), ((Sum.inr "together" : Key), V.bl tb), ((Sum.inr "doubles" : Key), V.str dz), ((Sum.inr "again" : Key), V.bl ab), ((Sum.inr "slot" : Key), V.int sl), ((Sum.inr "natural" : Key), V.bl nb)] by kernel_rfl]
    refine ⟨_, _, rfl, _, rfl, f, _, rfl, DPut.k (k := Sum.inr (Str.ofString "home")) upd_same (by show 7 < sizeLine; decide), rfl, ?_⟩
    rw [upd_upd, show putK [((Sum.inr "wholes" : Key), V.int w), ((Sum.inr "floats" : Key), V.int g), ((Sum.inr "together" : Key), V.bl tb), ((Sum.inr "doubles" : Key), V.str dz), ((Sum.inr "again" : Key), V.bl ab), ((Sum.inr "slot" : Key), V.int sl), ((Sum.inr "natural" : Key), V.bl nb)] (Sum.inr (Str.ofString "home")) (V.int hm) = [((Sum.inr "wholes" : Key), V.int w), ((Sum.inr "floats" : Key), V.int g), ((Sum.inr "together" : Key), V.bl tb), ((Sum.inr "doubles" : Key), V.str dz), ((Sum.inr "again" : Key), V.bl ab), ((Sum.inr "slot" : Key), V.int sl), ((Sum.inr "natural" : Key), V.bl nb), ((Sum.inr "home" : Key), V.int hm)] by kernel_rfl]
    have eD := (((eC.trans ea2).trans eb2).trans (((Ex.refl Hb2).more (o := .tup [V.bl nb, V.int hm]) ht2).p)).put (u := .dK [((Sum.inr "wholes" : Key), V.int w), ((Sum.inr "floats" : Key), V.int g), ((Sum.inr "together" : Key), V.bl tb), ((Sum.inr "doubles" : Key), V.str dz), ((Sum.inr "again" : Key), V.bl ab), ((Sum.inr "slot" : Key), V.int sl), ((Sum.inr "natural" : Key), V.bl nb), ((Sum.inr "home" : Key), V.int hm)]) hf
    have pD := (pb2.ex ((Ex.refl Hb2).more (o := .tup [V.bl nb, V.int hm]) ht2)).put (u := .dK [((Sum.inr "wholes" : Key), V.int w), ((Sum.inr "floats" : Key), V.int g), ((Sum.inr "together" : Key), V.bl tb), ((Sum.inr "doubles" : Key), V.str dz), ((Sum.inr "again" : Key), V.bl ab), ((Sum.inr "slot" : Key), V.int sl), ((Sum.inr "natural" : Key), V.bl nb), ((Sum.inr "home" : Key), V.int hm)]) pf
    have fD := upd_same (H := upd Hb2 t2 (.tup [V.bl nb, V.int hm])) (a := f) (o := .dK [((Sum.inr "wholes" : Key), V.int w), ((Sum.inr "floats" : Key), V.int g), ((Sum.inr "together" : Key), V.bl tb), ((Sum.inr "doubles" : Key), V.str dz), ((Sum.inr "again" : Key), V.bl ab), ((Sum.inr "slot" : Key), V.int sl), ((Sum.inr "natural" : Key), V.bl nb), ((Sum.inr "home" : Key), V.int hm)])
    generalize upd (upd Hb2 t2 (.tup [V.bl nb, V.int hm])) f (.dK [((Sum.inr "wholes" : Key), V.int w), ((Sum.inr "floats" : Key), V.int g), ((Sum.inr "together" : Key), V.bl tb), ((Sum.inr "doubles" : Key), V.str dz), ((Sum.inr "again" : Key), V.bl ab), ((Sum.inr "slot" : Key), V.int sl), ((Sum.inr "natural" : Key), V.bl nb), ((Sum.inr "home" : Key), V.int hm)]) = HD at eD pD fD ⊢
    refine ⟨_, rfl, by show 3 ≤ sizeLine; decide, fun l hl => pick_go (ExP.refl p HD) pD hl (by simp) (by show 3 ≤ 1000; decide) (fun H9 v hv e9 p9 => ?_)⟩
    obtain ⟨tz, rfl, htz⟩ : ∃ z, v = .str z ∧ (z = Str.ofString "same" ∨ z = Str.ofString "slots") := by
      simp only [List.mem_cons, List.not_mem_nil, or_false] at hv
      rcases hv with h | h | h
      · exact ⟨_, h, .inl rfl⟩
      · exact ⟨_, h, .inl rfl⟩
      · exact ⟨_, h, .inr rfl⟩
    refine fun q1 hq1 => ⟨by show 2 ≤ sizeLine; decide, fun t2 ht2 => ?_⟩
    have f9 := e9 f _ fp fD
    have fq := ne_of_none f9 hq1
    have f9q : upd H9 q1 (.dK []) f = some _ := (upd_ne fq).trans f9
    have ft2 := ne_of_none f9q ht2
    have qt2 : q1 ≠ t2 := ne_of_none upd_same ht2
    refine ⟨t2, _, rfl, SqT.of upd_same, rfl, _, _, rfl, ?_⟩
    refine ⟨_, rfl, f, _, rfl, DPut.k (k := Sum.inr (Str.ofString "tail")) ((upd_ne ft2).trans f9q) (by show 8 < sizeLine; decide), ?_⟩
    rw [show putK [((Sum.inr "wholes" : Key), V.int w), ((Sum.inr "floats" : Key), V.int g), ((Sum.inr "together" : Key), V.bl tb), ((Sum.inr "doubles" : Key), V.str dz), ((Sum.inr "again" : Key), V.bl ab), ((Sum.inr "slot" : Key), V.int sl), ((Sum.inr "natural" : Key), V.bl nb), ((Sum.inr "home" : Key), V.int hm)] (Sum.inr (Str.ofString "tail")) (V.str tz) = [((Sum.inr "wholes" : Key), V.int w), ((Sum.inr "floats" : Key), V.int g), ((Sum.inr "together" : Key), V.bl tb), ((Sum.inr "doubles" : Key), V.str dz), ((Sum.inr "again" : Key), V.bl ab), ((Sum.inr "slot" : Key), V.int sl), ((Sum.inr "natural" : Key), V.bl nb), ((Sum.inr "home" : Key), V.int hm), ((Sum.inr "tail" : Key), V.str tz)] by kernel_rfl]
    refine ⟨_, _, rfl, _, rfl, f, _, rfl, DPut.k (k := Sum.inr (Str.ofString "fills")) upd_same (by show 9 < sizeLine; decide), rfl, ?_⟩
    rw [upd_upd, show putK [((Sum.inr "wholes" : Key), V.int w), ((Sum.inr "floats" : Key), V.int g), ((Sum.inr "together" : Key), V.bl tb), ((Sum.inr "doubles" : Key), V.str dz), ((Sum.inr "again" : Key), V.bl ab), ((Sum.inr "slot" : Key), V.int sl), ((Sum.inr "natural" : Key), V.bl nb), ((Sum.inr "home" : Key), V.int hm), ((Sum.inr "tail" : Key), V.str tz)] (Sum.inr (Str.ofString "fills")) (V.ref q1) = (kw10.map Sum.inr).zip (valsC ⟨w, g, tb, dz, ab, sl, nb, hm, tz, fun _ => ⟨FREE, .non⟩⟩ (.ref q1)) by kernel_rfl]
    generalize hK10 : (kw10.map Sum.inr : List Key).zip (valsC ⟨w, g, tb, dz, ab, sl, nb, hm, tz, fun _ => ⟨FREE, .non⟩⟩ (.ref q1)) = K10
    have eE := ((eD.trans e9).trans ((((Ex.refl H9).more (o := .dK []) hq1).more (o := .tup [V.str tz, V.ref q1]) ht2).p)).put (u := .dK K10) hf
    have pE := (p9.ex (((Ex.refl H9).more (o := .dK []) hq1).more (o := .tup [V.str tz, V.ref q1]) ht2)).put (u := .dK K10) pf
    have fE := upd_same (H := upd (upd H9 q1 (.dK [])) t2 (.tup [V.str tz, V.ref q1])) (a := f) (o := .dK K10)
    have qE : upd (upd (upd H9 q1 (.dK [])) t2 (.tup [V.str tz, V.ref q1])) f (.dK K10) q1 = some (.dK []) := by
      rw [upd_ne fq.symm, upd_ne qt2, upd_same]
    have pq : p ≠ q1 := p9.ne hq1
    have hq0 : H q1 = none := (eD.trans e9).none hp hq1 p9
    generalize upd (upd (upd H9 q1 (.dK [])) t2 (.tup [V.str tz, V.ref q1])) f (.dK K10) = HA at eE pE fE qE ⊢
    have dp : d ≠ p := hp.ne_of hd (by intro _ z; cases z)
    have df : d ≠ f := ne_of_none hd hf
    have dq : d ≠ q1 := ne_of_none hd hq0
    have dA := eE d _ dp hd
    refine ⟨d, _, dA, True.intro, fun od => ⟨_, rfl, d, od, rfl, .inl ⟨_, upd_same, ?_⟩⟩⟩
    have lk : (keK es).length = es.length := by
      unfold keK
      rw [List.length_map]
    have eL : ExP p (upd H d (.frz od (.dK (keK es)))) (upd HA d (.frz od (.dK (keK es)))) := fun a o n h => by
      by_cases z : a = d
      · rw [z, upd_same] at h ⊢
        exact h
      · rw [upd_ne z] at h ⊢
        exact eE a o n h
    have tpL : ∀ e ∈ es, upd H d (.frz od (.dK (keK es))) e.1 = some (.tup (partsV e.2)) := fun e he => by
      rw [upd_ne (ne_of (tp e he) hd (by intro z; cases z))]
      exact tp e he
    have dL : upd H d (.frz od (.dK (keK es))) d = some (.frz od (.dK (keK es))) := upd_same
    have hqL : upd H d (.frz od (.dK (keK es))) q1 = none := by
      rw [upd_ne dq.symm]
      exact hq0
    have hLp : ∀ {e : KEnt}, e ∈ es → e.1 ≠ p := fun he => hp.ne_of (tp _ he) (by intro _ z; cases z)
    refine for_it (walk_keys (kvs := keK es)) (fun i σ Hc => ∃ (ps : List Ent) (a3 a4 a5 a6 : Option V), ExP p (upd H d (.frz od (.dK (keK es)))) Hc ∧ Pot Hc p ∧ Hc f = some (.dK K10) ∧ Hc q1 = some (.dK (entK ps)) ∧ (∀ e ∈ ps, Hc e.2.1 = some (.tup (planF e.2.2)) ∧ e.2.2.Ok) ∧ ps.map (·.1) = (es.take i).map (·.2.name) ∧
        σ = [some (.ref p), some (.ref d), some (.ref f), a3, a4, a5, a6]) ⟨[], none, none, none, none, eL, pE.put dp.symm, (upd_ne df.symm).trans fE, (upd_ne dq.symm).trans qE, fun e h => absurd h List.not_mem_nil, rfl, rfl⟩
      (fun i σ Hc _ h => let ⟨_, _, _, _, _, h, _⟩ := h; h d _ dp dL) (fun i y σ Hc H2 hi hP hY => ?_) (fun σ Hc hP => ?_)
    · obtain ⟨ps, a3, a4, a5, a6, ec, pc, fc, qc, tc, en, rfl⟩ := hP
      obtain ⟨rfl, k, v, hk, rfl⟩ := hY
      obtain ⟨e, he, rfl, rfl⟩ : ∃ e, es[i]? = some e ∧ k = Sum.inr e.2.name ∧ v = .ref e.1 := by
        unfold keK at hk
        rw [List.getElem?_map] at hk
        cases z : es[i]? with
        | none =>
          rw [z] at hk
          cases hk
        | some e =>
          rw [z] at hk
          exact ⟨e, rfl, (congrArg Prod.fst (Option.some.inj hk)).symm, (congrArg Prod.snd (Option.some.inj hk)).symm⟩
      have hm' := List.mem_of_getElem? he
      have il : i < es.length := by rw [← lk]; exact hi
      have gt : ∀ {Hx : Hp}, ExP p (upd H d (.frz od (.dK (keK es)))) Hx → Hx d = some (.frz od (.dK (keK es))) ∧ Hx e.1 = some (.tup (partsV e.2)) := fun ex => ⟨ex d _ dp dL, ex e.1 _ (hLp hm') (tpL e hm')⟩
      obtain ⟨g1, g2⟩ := gt ec
      refine ⟨_, rfl, _, rfl, d, _, rfl, .inl ⟨keK es, Sum.inr e.2.name, .inr ⟨od, g1⟩, rfl, (ke_val nd hm').symm⟩, e.1, _, _, V.int e.2.width, rfl, rfl, SqT.of g2, rfl, ?_⟩
      refine ⟨_, rfl, _, rfl, _, rfl, _, _, rfl, rfl, _, rfl, _, rfl, d, _, rfl, .inl ⟨keK es, Sum.inr e.2.name, .inr ⟨od, g1⟩, rfl, (ke_val nd hm').symm⟩, e.1, _, _, V.int e.2.size, rfl, rfl, SqT.of g2, rfl, _, _, rfl, rfl, .inl ⟨by decide, by decide⟩,
        _, rfl, p, 126, rfl, pc, by decide, by decide, fun Hd dr dr0 dr1 ed pd => ⟨_, _, rfl, rfl, by show 7 ≤ sizeLine; decide, fun l1 hl1 => pick_go (ExP.refl p Hd) pd hl1 (by simp) (by show 7 ≤ 1000; decide) (fun He v hv ee pe => ?_)⟩⟩
      obtain ⟨tv, rfl⟩ : ∃ tv : Int, v = .int tv := by
        simp only [List.mem_cons, List.not_mem_nil, or_false] at hv
        rcases hv with h | h | h | h | h | h | h <;> exact ⟨_, h⟩
      refine ⟨_, rfl, by show 3 ≤ sizeLine; decide, fun l2 hl2 => pick_go (ExP.refl p He) pe hl2 (by simp) (by show 3 ≤ 1000; decide) (fun Hf v hv ef pf' => ?_)⟩
      obtain ⟨zz, rfl, hzz⟩ : ∃ z, v = .str z ∧ (z = FREE ∨ z = ZEROS ∨ z = SIGN) := by
        simp only [List.mem_cons, List.not_mem_nil, or_false] at hv
        rcases hv with h | h | h
        · exact ⟨_, h, .inl rfl⟩
        · exact ⟨_, h, .inr (.inl rfl)⟩
        · exact ⟨_, h, .inr (.inr rfl)⟩
      have exf := (ed.trans ee).trans ef
      have eCf := ec.trans exf
      have ff := exf f _ fp fc
      have qf := exf q1 _ pq.symm qc
      have lps : ps.length ≤ 5 := by
        have := congrArg List.length en
        rw [List.length_map, List.length_map, List.length_take] at this
        omega
      have fin : ∀ x : Int, x = topI (if zz = FREE then ⟨FREE, .non⟩ else ⟨zz, .int x⟩) → (zz ≠ FREE → 3 ≤ x ∧ x ≤ 128) → ∀ t, Hf t = none →
          ∃ (ps' : List Ent), ((Hf q1 = some (.dK (entK ps)) ∧ (entK ps).length < sizeLine) ∧ upd Hf t (.tup [V.str zz, V.int x]) q1 = some (.dK (entK ps)) ∧ upd Hf t (.tup [V.str zz, V.int x]) f = some (.dK K10)) ∧ putK (entK ps) (Sum.inr e.2.name) (.ref t) = entK ps' ∧ ExP p (upd H d (.frz od (.dK (keK es)))) (upd (upd Hf t (.tup [V.str zz, V.int x])) q1 (.dK (entK ps'))) ∧ Pot (upd (upd Hf t (.tup [V.str zz, V.int x])) q1 (.dK (entK ps'))) p ∧
            upd (upd Hf t (.tup [V.str zz, V.int x])) q1 (.dK (entK ps')) f = some (.dK K10) ∧ upd (upd Hf t (.tup [V.str zz, V.int x])) q1 (.dK (entK ps')) q1 = some (.dK (entK ps')) ∧ (∀ u ∈ ps', upd (upd Hf t (.tup [V.str zz, V.int x])) q1 (.dK (entK ps')) u.2.1 = some (.tup (planF u.2.2)) ∧ u.2.2.Ok) ∧ ps'.map (·.1) = (es.take (i + 1)).map (·.2.name) := fun x hx hok t ht => by
        have qt := ne_of_none qf ht
        have ftt := ne_of_none ff ht
        have fq1 : f ≠ q1 := by
          intro z
          rw [← hK10] at ff
          rw [z, qf] at ff
          injection ff with ff
          injection ff with ff
          have := congrArg List.length ff
          unfold entK at this
          rw [List.length_map] at this
          have z2 : ((kw10.map Sum.inr : List Key).zip (valsC ⟨w, g, tb, dz, ab, sl, nb, hm, tz, fun _ => ⟨FREE, .non⟩⟩ (.ref q1))).length = 10 := rfl
          rw [z2] at this
          omega
        have nin : ∀ u ∈ ps, u.1 ≠ e.2.name := fun u hu z => by
          have hmm : e.2.name ∈ (es.take i).map (·.2.name) := by
            rw [← en, ← z]
            exact List.mem_map.mpr ⟨u, hu, rfl⟩
          obtain ⟨e', he', en'⟩ := List.mem_map.mp hmm
          obtain ⟨j, hj, ej⟩ := List.mem_take_iff_getElem.mp he'
          obtain ⟨hi2, ei⟩ := List.getElem?_eq_some_iff.mp he
          have := List.pairwise_iff_getElem.mp (List.nodup_iff_pairwise_ne.mp nd) j i (by rw [List.length_map]; omega) (by rw [List.length_map]; omega) (by omega)
          rw [List.getElem_map, List.getElem_map, ej, ei] at this
          exact this en'
        refine ⟨ps ++ [(e.2.name, t, if zz = FREE then ⟨FREE, .non⟩ else ⟨zz, .int x⟩)], ⟨⟨qf, ?_⟩, (upd_ne qt).trans qf, (upd_ne ftt).trans ff⟩, ?_, (eCf.trans ((Ex.refl Hf).more ht).p).put hqL, (pf'.ex ((Ex.refl Hf).more ht)).put pq, ?_, upd_same, ?_, ?_⟩
        · unfold entK
          rw [List.length_map, sizeLine_eq]
          omega
        · rw [putK_new _ (ent_none nin)]
          unfold entK
          rw [List.map_append]
          rfl
        · rw [upd_ne fq1, upd_ne ftt]
          exact ff
        · intro u hu
          rcases List.mem_append.mp hu with h | h
          · obtain ⟨h1, h2⟩ := tc u h
            have h3 := exf _ _ (pc.ne_of h1 (by intro _ z; cases z)) h1
            rw [upd_ne (ne_of h3 qf (by intro z; cases z)), upd_ne (ne_of_none h3 ht)]
            exact ⟨h3, h2⟩
          · rw [List.mem_singleton.mp h]
            dsimp only
            rw [upd_ne qt.symm, upd_same]
            by_cases hz : zz = FREE
            · rw [if_pos hz] at hx ⊢
              have x0 : x = 0 := hx
              rw [x0, hz]
              exact ⟨rfl, .inl ⟨rfl, rfl⟩⟩
            · rw [if_neg hz]
              exact ⟨rfl, .inr ⟨hzz.resolve_left hz, x, rfl, hok hz⟩⟩
        · rw [List.map_append, en, ← take_get he, List.map_append]
          rfl
      refine ⟨_, rfl, _, rfl, rfl, _, rfl, ?_⟩
      rw [eS]
      have vF : valV K10 (Sum.inr (Str.ofString "fills")) = some (.ref q1) := by
        rw [← hK10]
        kernel_rfl
      refine iteB (fun hz => ?_) (fun hz => ?_)
      · have hz' : zz = FREE := of_decide_eq_true hz
        refine ⟨by show 2 ≤ sizeLine; decide, fun t ht => ?_⟩
        obtain ⟨ps', ⟨⟨_, i0⟩, i1, i2⟩, i3, i4, i5, i6, i7, i8, i9⟩ := fin 0 (by rw [if_pos hz']; rfl) (fun h => absurd hz' h) t ht
        refine ⟨_, rfl, f, _, rfl, .inl ⟨K10, Sum.inr (Str.ofString "fills"), .inl i2, rfl, vF.symm⟩, _, rfl, q1, _, rfl, DPut.k (k := Sum.inr e.2.name) i1 i0, ?_⟩
        rw [i3]
        exact ⟨ps', _, _, _, _, i4, i5, i6, i7, i8, i9, rfl⟩
      · have hz' : zz ≠ FREE := of_decide_eq_false hz
        refine ⟨_, rfl, .inl ⟨_, rfl, _, _, rfl, _, _, rfl, by show 2 ≤ sizeLine; decide, fun t ht => ?_⟩⟩
        have hx : 3 ≤ (if (if tv < 128 then tv else 128) > 3 then (if tv < 128 then tv else 128) else 3) ∧ (if (if tv < 128 then tv else 128) > 3 then (if tv < 128 then tv else 128) else 3) ≤ 128 := by
          split <;> split <;> omega
        obtain ⟨ps', ⟨⟨_, i0⟩, i1, i2⟩, i3, i4, i5, i6, i7, i8, i9⟩ := fin _ (by rw [if_neg hz']; rfl) (fun _ => hx) t ht
        refine ⟨_, rfl, f, _, rfl, .inl ⟨K10, Sum.inr (Str.ofString "fills"), .inl i2, rfl, vF.symm⟩, _, rfl, q1, _, rfl, DPut.k (k := Sum.inr e.2.name) i1 i0, ?_⟩
        rw [i3]
        exact ⟨ps', _, _, _, _, i4, i5, i6, i7, i8, i9, rfl⟩
    · obtain ⟨ps, a3, a4, a5, a6, ec, pc, fc, qc, tc, en, rfl⟩ := hP
      rw [lk, List.take_length] at en
      have dc := ec d _ dp dL
      have up : ∀ {a : Addr} {o : HO}, Hc a = some o → (∀ od u, o ≠ .frz od u) → upd Hc d (.dK (keK es)) a = some o := fun {a o} h n => by
        rw [upd_ne (ne_of h dc (n _ _))]
        exact h
      have en2 : (ps.map fun e => (e.1, e.2.2)).map (·.1) = es.map (·.2.name) := by
        rw [List.map_map, ← en]
        rfl
      refine ⟨dc, _, rfl, q _ f ⟨w, g, tb, dz, ab, sl, nb, hm, tz, toldL (ps.map fun e => (e.1, e.2.2))⟩ (ec.unlock hd) ((pc.put dp.symm)) ⟨⟨q1, ps, ?_, up qc (by intro _ _ z; cases z), fun e he => up (tc e he).1 (by intro _ _ z; cases z), ?_⟩, ⟨⟨w0, by show w ≤ 3; omega⟩, ⟨g0, by show g ≤ 3; omega⟩, hdz, hsl, hhm, htz⟩, fun e he => ?_⟩⟩
      · rw [up fc (by intro _ _ z; cases z), ← hK10]
        rfl
      · have z := told_map (fl := ps.map fun e => (e.1, e.2.2)) (by rw [en2]; exact nd)
        rw [en2, List.map_map] at z
        exact z
      · show (toldL (ps.map fun e => (e.1, e.2.2)) e.2.name).Ok
        have hmm : e.2.name ∈ (ps.map fun e => (e.1, e.2.2)).map (·.1) := by
          rw [en2]
          exact List.mem_map.mpr ⟨e, he, rfl⟩
        obtain ⟨x, hx, ex⟩ := List.mem_map.mp hmm
        have z := told_self (fl := ps.map fun e => (e.1, e.2.2)) (by rw [en2]; exact nd) x hx
        rw [ex] at z
        rw [z]
        obtain ⟨u, hu, rfl⟩ := List.mem_map.mp hx
        exact (tc u hu).2
end
end U
/-! ## the law: _law_convention -/
namespace U
open PySem PySem.Spec PyProof.Rows L2 StX TL
section
variable {W : Wd}
abbrev cvN : List Str := ["_law_book_here", "_law_plan_here", "_law_told_here", "_law_label", "_law_word", "_law_top", "_law_made"]
theorem sc_law_conv : FnScope cvN ["_law_book_here", "_law_plan_here"] (defScope s__law_convention) := ⟨rfl, rfl, rfl, by decide +kernel, rfl, by decide +kernel, by decide +kernel⟩
def sp_law_conv (K : Fg) : Sp := fun vs H Q _ => ∃ (b d : Addr) (as : List Addr) (es : List KEnt) (c : ConvD), vs = [.ref b, .ref d] ∧ BookAt K H b as (es.map (·.2)) ∧ PlanAt H d c es ∧ ∀ H' x, Ex H H' → ConvAt K H' x b as (es.map (·.2)) c → Q (.ref x) H'
theorem told_filter {fl : List (Str × FillD)} (nd : (fl.map (·.1)).Nodup) (ok : ∀ e ∈ fl, e.2.Ok) {n : Str} {f : FillD} (h : (n, f) ∈ fl) : toldL (fl.filter fun e => isTold e.2) n = f := by
  have nd2 : ((fl.filter fun e => isTold e.2).map (·.1)).Nodup := nd.sublist ((List.filter_sublist).map _)
  by_cases q : isTold f = true
  · exact told_self nd2 (n, f) (List.mem_filter.mpr ⟨h, q⟩)
  · have hw : f.word = FREE := by
      unfold isTold at q
      simpa using q
    have hx : f.ext = .non := by
      rcases ok _ h with ⟨_, z⟩ | ⟨z, _⟩
      · exact z
      · exfalso
        have z2 : f.word = ZEROS ∨ f.word = SIGN := z
        rw [hw] at z2
        rcases z2 with z2 | z2 <;> exact absurd z2 (by decide +kernel)
    unfold toldL
    cases hf : (fl.filter fun e => isTold e.2).find? (fun e => decide (e.1 = n)) with
    | none =>
      obtain ⟨w, x⟩ := f
      have e1 : w = FREE := hw
      have e2 : x = .non := hx
      rw [e1, e2]
    | some e =>
      exfalso
      have h1 := List.mem_filter.mp (List.mem_of_find?_eq_some hf)
      have h2 : e.1 = n := of_decide_eq_true (List.find?_some (p := fun e : Str × FillD => decide (e.1 = n)) hf)
      have h3 := told_self nd e h1.1
      have h4 := told_self nd (n, f) h
      rw [h2] at h3
      have h5 : e.2 = f := h3.symm.trans h4
      rw [h5] at h1
      exact q h1.2
theorem ok_law_conv (T : Tx W) : Fn W CX0 11 (ga W.K "_law_convention") ["_law_book_here", "_law_plan_here"] (sp_law_conv W.K) := by
  obtain ⟨fd, F⟩ := T.d__law_convention
  obtain ⟨fdK, FK, _, ⟨g, gV, hKB, rfl⟩⟩ := ok_Conv_all T
  refine ⟨⟨fd, ?_, F.bindsN fun _ _ _ _ _ _ us hl => match us, hl with | [_, _], _ => rfl⟩, F.kp⟩
  refine F.ok sc_law_conv (fun vs H Q E h => ?_) (fun cdv A outer s H vs Q E hr h => ?_)
  · obtain ⟨b, d, as, es, c, rfl, _⟩ := h
    rfl
  · obtain ⟨b, d, as, es, c, rfl, hB, ⟨⟨fp, ps, hd, hfp, htp, hps⟩, okc, fok⟩, q⟩ := h
    have nN := sc_law_conv.nd
    have G : ∀ k : Str, True := fun _ => True.intro
    refine ⟨_, PSs.nox (pss_cons (ps_set (i := 2) nN rfl (Or.inl rfl) pe_dnewK)
      (pss_cons (ps_lock (ps_for PassesOwn.never rfl (pi_items (pe_dget (hu_of hr) (pv 1) pe_str (fun _ _ => rfl))) (pg_tup rfl (pgs_cons (pg_name (i := 3) nN rfl (Or.inl rfl)) (pgs_cons (pg_tup rfl (pgs_cons (pg_name (i := 4) nN rfl (Or.inl rfl)) (pgs_cons (pg_name (i := 5) nN rfl (Or.inl rfl)) pgs_nil))) pgs_nil)))
        (pss_one (ps_if (pt_cmpR op_ne (pv 4) pe_str (nomark _)) (pss_one (ps_dput (hu_of hr) (pv 2) (pv 3) (u_make (ok_Fill_init T) T.mk_Fill T.g_Fill hr (pa_cons (pv 4) (pa_cons (pv 5) pa_nil))) rfl)) pss_nil))))
      (pss_cons (ps_set (i := 6) nN rfl (Or.inl rfl) (pe_makeK T.mk_Convention FK (hr.mono (by decide)) (by rfl) T.g_Convention hKB pass0 (pa_cons (pv 0) pa_nil) (pk_cons (pe_dget (hu_of hr) (pv 1) pe_str (fun _ _ => rfl)) (pk_cons (pe_dget (hu_of hr) (pv 1) pe_str (fun _ _ => rfl)) (pk_cons (pe_dget (hu_of hr) (pv 1) pe_str (fun _ _ => rfl)) pk_nil)))))
      (pss_cons (ps_set (i := 6) nN rfl (Or.inl rfl) (pe_methKw (pv 6) T.cls_Convention T.m_Convention_changed (ok_changed_four T) (hr.mono (by decide)) pass0 (pk_cons (pe_dget (hu_of hr) (pv 1) pe_str (fun _ _ => rfl)) (pk_cons (pe_dget (hu_of hr) (pv 1) pe_str (fun _ _ => rfl)) (pk_cons (pe_dget (hu_of hr) (pv 1) pe_str (fun _ _ => rfl)) (pk_cons (pe_dget (hu_of hr) (pv 1) pe_str (fun _ _ => rfl)) pk_nil))))))
      (pss_one (ps_ret (pe_methKw (pv 6) T.cls_Convention T.m_Convention_changed (ok_changed_three T) (hr.mono (by decide)) pass0 (pk_cons (pe_dget (hu_of hr) (pv 1) pe_str (fun _ _ => rfl)) (pk_cons (pe_dget (hu_of hr) (pv 1) pe_str (fun _ _ => rfl)) (pk_cons (pv 2) pk_nil)))))))))), ?_⟩
    refine fun tl htl => ?_
    have fpt := ne_of_none hfp htl
    have e0 : Ex H (upd H tl (.dK [])) := (Ex.refl H).more htl
    have t0 := upd_same (H := H) (a := tl) (o := .dK [])
    have hB0 := hB.ex_mono e0
    have hfp0 := e0 _ _ hfp
    have hd0 := e0 _ _ hd
    have few := hB.few
    rw [List.length_map] at few
    have lps : ps.length = es.length := by
      have z := congrArg List.length hps
      rw [List.length_map, List.length_map] at z
      exact z
    have dfp : d ≠ fp := fun z => by
      rw [z, hfp] at hd
      injection hd with hd
      injection hd with hd
      have z1 := congrArg List.length hd
      unfold entK at z1
      rw [List.length_map] at z1
      have z2 : ((kw10.map Sum.inr : List Key).zip (valsC c (.ref fp))).length = 10 := rfl
      rw [z2] at z1
      omega
    have nd : (ps.map (·.1)).Nodup := by
      have z := congrArg (List.map (·.1)) hps
      rw [List.map_map, List.map_map] at z
      have z2 : ps.map (·.1) = es.map (·.2.name) := z
      rw [z2]
      have z3 := hB.nd
      rw [List.map_map] at z3
      exact z3
    have pok : ∀ e ∈ ps, e.2.2.Ok := fun e he => by
      have z : (e.1, e.2.2) ∈ es.map fun e => (e.2.name, c.fill e.2.name) := by
        rw [← hps]
        exact List.mem_map.mpr ⟨e, he, rfl⟩
      obtain ⟨u, hu, eu⟩ := List.mem_map.mp z
      have z2 : c.fill u.2.name = e.2.2 := congrArg Prod.snd eu
      rw [← z2]
      exact fok u hu
    have htp0 : ∀ e ∈ ps, upd H tl (.dK []) e.2.1 = some (.tup (planF e.2.2)) := fun e he => e0 _ _ (htp e he)
    generalize upd H tl (.dK []) = H0 at e0 t0 hfp0 hd0 hB0 htp0 ⊢
    refine ⟨fp, _, hfp0, True.intro, fun od => ⟨_, rfl, d, _, rfl, .inl ⟨_, Sum.inr "fills", .inl ((upd_ne dfp).trans hd0), rfl, (show valV ((kw10.map Sum.inr : List Key).zip (valsC c (.ref fp))) (Sum.inr "fills") = some (.ref fp) by kernel_rfl).symm⟩, fp, od, _, rfl, upd_same, ?_⟩⟩
    have lk : (entK ps).length = ps.length := by
      unfold entK
      rw [List.length_map]
    have tpL : ∀ e ∈ ps, upd H0 fp (.frz od (.dK (entK ps))) e.2.1 = some (.tup (planF e.2.2)) := fun e he => by
      rw [upd_ne (ne_of (htp0 e he) hfp0 (by intro z; cases z))]
      exact htp0 e he
    have tL : upd H0 fp (.frz od (.dK (entK ps))) tl = some (.dK []) := (upd_ne fpt.symm).trans t0
    have ex0 : ∀ {H'}, (∀ a o, a ≠ tl → upd H0 fp (.frz od (.dK (entK ps))) a = some o → H' a = some o) → Ex H (upd H' fp (.dK (entK ps))) := fun {H'} e a o h => by
      have at_ := ne_of_none h htl
      have h0 := e0 _ _ h
      by_cases z : a = fp
      · rw [z] at h0 ⊢
        rw [upd_same, ← hfp0]
        exact h0
      · rw [upd_ne z]
        refine e a o at_ ?_
        rw [upd_ne z]
        exact h0
    have dL := upd_same (H := H0) (a := fp) (o := .frz od (.dK (entK ps)))
    generalize upd H0 fp (.frz od (.dK (entK ps))) = HL at tpL tL ex0 dL ⊢
    refine for_it (walk_items (kvs := entK ps)) (fun i σ Hc => ∃ (ts : List Ent) (a3 a4 a5 : Option V), (∀ a o, a ≠ tl → HL a = some o → Hc a = some o) ∧ Hc tl = some (.dK (entK ts)) ∧ (∀ e ∈ ts, FillAt W.K Hc e.2.1 e.2.2) ∧ ts.map (fun e => (e.1, e.2.2)) = ((ps.take i).map fun e => (e.1, e.2.2)).filter (fun e => isTold e.2) ∧
        σ = [some (.ref b), some (.ref d), some (.ref tl), a3, a4, a5, none]) ⟨[], none, none, none, fun _ _ _ h => h, tL, fun e h => absurd h List.not_mem_nil, rfl, rfl⟩ (fun i σ Hc _ h => let ⟨_, _, _, _, h, _⟩ := h; h fp _ fpt dL) (fun i y σ Hc H2 hi hP hY => ?_) (fun σ Hc hP => ?_)
    · obtain ⟨ts, a3, a4, a5, ec, tc, fc, en, rfl⟩ := hP
      obtain ⟨TT, a, v, rfl, hT, rfl, ha, hv⟩ := hY
      obtain ⟨e, he, rfl, rfl⟩ : ∃ e, ps[i]? = some e ∧ a = .str e.1 ∧ v = .ref e.2.1 := by
        replace ha : ((entK ps)[i]?.map fun kv => kV kv.1) = some a := ha
        replace hv : ((entK ps)[i]?.map Prod.snd) = some v := hv
        unfold entK at ha hv
        rw [List.getElem?_map] at ha hv
        cases z : ps[i]? with
        | none =>
          rw [z] at ha
          cases ha
        | some e =>
          rw [z] at ha hv
          exact ⟨e, rfl, (Option.some.inj ha).symm, (Option.some.inj hv).symm⟩
      have hm := List.mem_of_getElem? he
      have eok := pok e hm
      have et : e.2.1 ≠ tl := by
        intro z
        have h1 := tpL e hm
        rw [z, tL] at h1
        cases h1
      have htc := ec _ _ et (tpL e hm)
      have eT : Ex Hc (upd Hc TT (.tup [V.str e.1, V.ref e.2.1])) := (Ex.refl Hc).more hT
      refine ⟨TT, _, rfl, SqT.of upd_same, rfl, _, _, rfl, _, _, rfl, e.2.1, _, rfl, SqT.of (eT _ _ htc), rfl, _, _, rfl, _, _, rfl, rfl, rfl, ?_⟩
      refine ⟨_, rfl, rfl, _, rfl, ?_⟩
      rw [eS]
      have tn := take_get he
      have snoc : ((ps.take (i + 1)).map fun e => (e.1, e.2.2)).filter (fun e => isTold e.2) = ((ps.take i).map fun e => (e.1, e.2.2)).filter (fun e => isTold e.2) ++ if isTold e.2.2 = true then [(e.1, e.2.2)] else [] := by
        rw [← tn, List.map_append, List.filter_append]
        congr 1
        by_cases h : isTold e.2.2 = true
        · rw [if_pos h, List.map_cons, List.filter_cons, if_pos h]
          rfl
        · rw [if_neg h, List.map_cons, List.filter_cons, if_neg h]
          rfl
      have ew0 : (!decide (e.2.2.word = FREE)) = isTold e.2.2 := by
        unfold isTold
        rw [Bool.eq_iff_iff]
        simp
      have ew : (!decide (e.2.2.word = Str.ofString "free")) = isTold e.2.2 := ew0
      rw [ew]
      refine iteB (fun hb => ?_) (fun hb => ?_)
      · rcases eok with ⟨z, _⟩ | ⟨hw, x, hx, x0, x1⟩
        · unfold isTold at hb
          exact absurd z (of_decide_eq_true hb)
        · have htop : topI e.2.2 = x := by
            unfold topI
            rw [hx]
          refine ⟨_, rfl, _, rfl, fun u dx nu ndx ne => ?_⟩
          refine ⟨u, dx, e.2.2, by rw [hx, htop]; rfl, .inr ⟨hw, x, hx, x0, x1⟩, upd_same, fun H8 e8 => ⟨rfl, ?_⟩⟩
          have e9 : Ex Hc (upd H8 u (.ins (ga W.K "Fill") dx (fillF e.2.2))) := fun a o h => by
            have h1 := eT _ _ h
            rw [upd_ne (ne_of_none h1 nu)]
            refine e8 a o ?_
            rw [upd_ne (ne_of_none h1 nu), upd_ne (ne_of_none h1 ndx)]
            exact h1
          have hu := upd_same (H := H8) (a := u) (o := .ins (ga W.K "Fill") dx (fillF e.2.2))
          generalize upd H8 u (.ins (ga W.K "Fill") dx (fillF e.2.2)) = H9 at e9 hu ⊢
          have t9 := e9 _ _ tc
          have nin : ∀ w ∈ ts, w.1 ≠ e.1 := fun w hw' z => by
            have h1 : (w.1, w.2.2) ∈ ((ps.take i).map fun e => (e.1, e.2.2)).filter (fun e => isTold e.2) := by
              rw [← en]
              exact List.mem_map.mpr ⟨w, hw', rfl⟩
            obtain ⟨e', he', ee⟩ := List.mem_map.mp (List.mem_filter.mp h1).1
            have e1 : e'.1 = e.1 := (congrArg Prod.fst ee).trans z
            obtain ⟨j, hj, ej⟩ := List.mem_take_iff_getElem.mp he'
            obtain ⟨hi2, ei⟩ := List.getElem?_eq_some_iff.mp he
            have := List.pairwise_iff_getElem.mp (List.nodup_iff_pairwise_ne.mp nd) j i (by rw [List.length_map]; omega) (by rw [List.length_map]; omega) (by omega)
            rw [List.getElem_map, List.getElem_map, ej, ei] at this
            exact this e1
          have lts : ts.length ≤ 5 := by
            have z := congrArg List.length en
            rw [List.length_map] at z
            have z1 := List.length_filter_le (fun e : Str × FillD => isTold e.2) ((ps.take i).map fun e => (e.1, e.2.2))
            rw [List.length_map, List.length_take] at z1
            omega
          refine ⟨_, rfl, _, rfl, tl, _, rfl, DPut.k (k := Sum.inr e.1) t9 (by
            unfold entK
            rw [List.length_map, sizeLine_eq]
            omega), ?_⟩
          rw [putK_new _ (ent_none nin), show entK ts ++ [((Sum.inr e.1 : Key), V.ref u)] = entK (ts ++ [(e.1, u, e.2.2)]) by
            unfold entK
            rw [List.map_append]
            rfl]
          refine ⟨ts ++ [(e.1, u, e.2.2)], _, _, _, fun a o n h => ?_, upd_same, fun w hw' => ?_, ?_, rfl⟩
          · rw [upd_ne n]
            exact e9 _ _ (ec a o n h)
          · rcases List.mem_append.mp hw' with h | h
            · obtain ⟨df, h2⟩ := fc w h
              refine ⟨df, ?_⟩
              rw [upd_ne (ne_of h2 tc (by intro z; cases z))]
              exact e9 _ _ h2
            · rw [List.mem_singleton.mp h]
              refine ⟨dx, ?_⟩
              rw [upd_ne (ne_of hu t9 (by intro z; cases z))]
              exact hu
          · rw [snoc, if_pos hb, List.map_append, en]
            rfl
      · refine ⟨ts, _, _, _, fun a o n h => eT _ _ (ec a o n h), eT _ _ tc, fun w hw' => let ⟨df, h2⟩ := fc w hw'; ⟨df, eT _ _ h2⟩, ?_, rfl⟩
        rw [snoc, if_neg (by rw [hb]; exact Bool.false_ne_true), List.append_nil]
        exact en
    · obtain ⟨ts, a3, a4, a5, ec, tc, fc, en, rfl⟩ := hP
      rw [lk, List.take_length] at en
      have hfc := ec fp _ fpt dL
      have eH := ex0 ec
      have up : ∀ {a : Addr} {o : HO}, Hc a = some o → (∀ od u, o ≠ .frz od u) → upd Hc fp (.dK (entK ps)) a = some o := fun {a o} h n => by
        rw [upd_ne (ne_of h hfc (n _ _))]
        exact h
      have tc2 := up tc (by intro _ _ z; cases z)
      have fc2 : ∀ e ∈ ts, FillAt W.K (upd Hc fp (.dK (entK ps))) e.2.1 e.2.2 := fun e he => let ⟨df, h⟩ := fc e he; ⟨df, up h (by intro _ _ z; cases z)⟩
      refine ⟨hfc, ?_⟩
      generalize upd Hc fp (.dK (entK ps)) = H2 at eH tc2 fc2 ⊢
      have hB2 := hB.ex_mono eH
      have hd2 := eH _ _ hd
      have fill0 : FillD.Ok ⟨FREE, .non⟩ := .inl ⟨rfl, rfl⟩
      -- Convention(..)
      refine ⟨_, rfl, _, rfl, d, _, rfl, .inl ⟨_, Sum.inr "wholes", .inl (hd2), rfl, (show valV ((kw10.map Sum.inr : List Key).zip (valsC c (.ref fp))) (Sum.inr "wholes") = some (.int c.wholes) by kernel_rfl).symm⟩, _, rfl, d, _, rfl, .inl ⟨_, Sum.inr "floats", .inl (hd2), rfl, (show valV ((kw10.map Sum.inr : List Key).zip (valsC c (.ref fp))) (Sum.inr "floats") = some (.int c.floats) by kernel_rfl).symm⟩, _, rfl, d, _, rfl, .inl ⟨_, Sum.inr "together", .inl (hd2), rfl, (show valV ((kw10.map Sum.inr : List Key).zip (valsC c (.ref fp))) (Sum.inr "together") = some (.bl c.together) by kernel_rfl).symm⟩, rfl, rfl, fun x dx nx ndx ne => ?_⟩
      refine ⟨x, dx, b, as, es.map (·.2), ⟨c.wholes, c.floats, c.together, "whole", false, 8, true, 0, "same", fun _ => ⟨FREE, .non⟩⟩, .non, [], rfl, upd_same, ?_, ⟨okc.wholes, okc.floats, .inl rfl, .inr rfl, .inl rfl, .inl rfl⟩, .inl ⟨rfl, rfl⟩, fun e h => absurd h List.not_mem_nil, by decide, fun e h => absurd h List.not_mem_nil, fun k _ => rfl, fun H3 e3 hC => ⟨rfl, ?_⟩⟩
      · exact hB2.ex_mono (((Ex.refl H2).more ndx).more (by rw [upd_ne ne.symm]; exact nx))
      have e23 : Ex H2 H3 := fun a o h => e3 a o (ne_of_none h nx) (by
        rw [upd_ne (ne_of_none h nx), upd_ne (ne_of_none h ndx)]
        exact h)
      have hd3 := e23 _ _ hd2
      obtain ⟨⟨dxc, cpc, fpc, esc, x3, _⟩, _⟩ := id hC
      refine ⟨_, rfl, x, dxc, _, rfl, x3, rfl, _, rfl, d, _, rfl, .inl ⟨_, Sum.inr "doubles", .inl (hd3), rfl, (show valV ((kw10.map Sum.inr : List Key).zip (valsC c (.ref fp))) (Sum.inr "doubles") = some (.str c.doubles) by kernel_rfl).symm⟩, _, rfl, d, _, rfl, .inl ⟨_, Sum.inr "again", .inl (hd3), rfl, (show valV ((kw10.map Sum.inr : List Key).zip (valsC c (.ref fp))) (Sum.inr "again") = some (.bl c.again) by kernel_rfl).symm⟩, _, rfl, d, _, rfl, .inl ⟨_, Sum.inr "slot", .inl (hd3), rfl, (show valV ((kw10.map Sum.inr : List Key).zip (valsC c (.ref fp))) (Sum.inr "slot") = some (.int c.slot) by kernel_rfl).symm⟩, _, rfl, d, _, rfl, .inl ⟨_, Sum.inr "natural", .inl (hd3), rfl, (show valV ((kw10.map Sum.inr : List Key).zip (valsC c (.ref fp))) (Sum.inr "natural") = some (.bl c.natural) by kernel_rfl).symm⟩, rfl, rfl, fun dd hdd => ?_⟩
      refine ⟨x, dd, b, as, es.map (·.2), ⟨c.wholes, c.floats, c.together, "whole", false, 8, true, 0, "same", fun _ => ⟨FREE, .non⟩⟩, ⟨c.wholes, c.floats, c.together, c.doubles, c.again, c.slot, c.natural, 0, "same", fun _ => ⟨FREE, .non⟩⟩, ["doubles", "again", "slot", "natural"], [.str c.doubles, .bl c.again, .int c.slot, .bl c.natural], none, rfl, hC.ex_mono ((Ex.refl H3).more hdd), ⟨okc.wholes, okc.floats, okc.doubles, okc.slot, .inl rfl, .inl rfl⟩, upd_same, rfl, by decide, by decide +kernel, fun fp' => by kernel_rfl, rfl, fun H4 y e4 ny hC2 => ?_⟩
      have e34 : Ex H3 H4 := ((Ex.refl H3).more hdd).trans e4
      have hd4 := e34 _ _ hd3
      have e24 := e23.trans e34
      obtain ⟨⟨dyc, cpc', fpc', esc', y4, _⟩, _⟩ := id hC2
      refine ⟨_, rfl, y, dyc, _, rfl, y4, rfl, _, rfl, d, _, rfl, .inl ⟨_, Sum.inr "home", .inl (hd4), rfl, (show valV ((kw10.map Sum.inr : List Key).zip (valsC c (.ref fp))) (Sum.inr "home") = some (.int c.home) by kernel_rfl).symm⟩, _, rfl, d, _, rfl, .inl ⟨_, Sum.inr "tail", .inl (hd4), rfl, (show valV ((kw10.map Sum.inr : List Key).zip (valsC c (.ref fp))) (Sum.inr "tail") = some (.str c.tail) by kernel_rfl).symm⟩, _, rfl, rfl, rfl, fun dd2 hdd2 => ?_⟩
      have e45 : Ex H4 (upd H4 dd2 _) := (Ex.refl H4).more (o := .dK (((["home", "tail", "fills"] : List Str).map Sum.inr : List Key).zip [.int c.home, .str c.tail, .ref tl])) hdd2
      have e25 := e24.trans e45
      have lts : ts.length ≤ 5 := by
        have z := congrArg List.length en
        rw [List.length_map] at z
        have z1 := List.length_filter_le (fun e : Str × FillD => isTold e.2) (ps.map fun e => (e.1, e.2.2))
        rw [List.length_map] at z1
        omega
      have tmem : ∀ e ∈ ts, (e.1, e.2.2) ∈ ps.map fun e => (e.1, e.2.2) := fun e he => by
        have h1 : (e.1, e.2.2) ∈ (ps.map fun e => (e.1, e.2.2)).filter (fun e => isTold e.2) := by
          rw [← en]
          exact List.mem_map.mpr ⟨e, he, rfl⟩
        exact (List.mem_filter.mp h1).1
      refine ⟨y, dd2, b, as, es.map (·.2), ⟨c.wholes, c.floats, c.together, c.doubles, c.again, c.slot, c.natural, 0, "same", fun _ => ⟨FREE, .non⟩⟩, c, ["home", "tail", "fills"], [.int c.home, .str c.tail, .ref tl], some (tl, ts), rfl, hC2.ex_mono e45, okc, upd_same, rfl, by decide, by decide +kernel, fun fp' => by kernel_rfl, ⟨?_, fun e he => ?_, lts, fun e he => ?_, fun k hk => ?_⟩, fun H5 z e5 nz hC3 => q H5 z ((eH.trans e25).trans e5) hC3⟩
      · exact FillsAt.ex_mono (⟨tc2, fc2⟩ : FillsAt W.K H2 tl ts) e25
      · have z := tmem e he
        rw [hps] at z
        obtain ⟨u, hu, eu⟩ := List.mem_map.mp z
        have z2 : u.2.name = e.1 := congrArg Prod.fst eu
        rw [List.map_map]
        exact List.mem_map.mpr ⟨u, hu, z2⟩
      · obtain ⟨u, hu, eu⟩ := List.mem_map.mp (tmem e he)
        have z2 : u.2.2 = e.2.2 := congrArg (fun w : Str × FillD => w.2) eu
        rw [← z2]
        exact pok u hu
      · obtain ⟨e, he, rfl⟩ := List.mem_map.mp hk
        show c.fill e.2.name = toldF ts e.2.name
        rw [toldF_L, en]
        refine (told_filter ?_ (fun u hu => ?_) ?_).symm
        · rw [List.map_map]
          exact nd
        · obtain ⟨v, hv, rfl⟩ := List.mem_map.mp hu
          exact pok v hv
        · rw [hps]
          exact List.mem_map.mpr ⟨e, he, rfl⟩
end
end U
/-! ## the law: _law_yes, _law_count, _law_options, _law_is_kind -/
namespace U
open PySem PySem.Spec PyProof.Rows L2 StX TL
section
variable {W : Wd}
theorem sc_law_yes : FnScope ["_law_truth"] ["_law_truth"] (defScope s__law_yes) := ⟨rfl, rfl, rfl, by decide +kernel, rfl, by decide +kernel, by decide +kernel⟩
theorem ok_law_yes (T : Tx W) : Fn W CX0 1 (ga W.K "_law_yes") ["_law_truth"] sp_yes_or_no := by
  obtain ⟨fd, F⟩ := T.d__law_yes
  refine ⟨⟨fd, ?_, F.bindsN fun _ _ _ _ _ _ us hl => match us, hl with | [_], _ => rfl⟩, F.kp⟩
  refine F.ok sc_law_yes (fun vs H Q E h => ?_) (fun cdv A outer s H vs Q E hr h => ?_)
  · obtain ⟨b, rfl, _⟩ := h
    rfl
  · obtain ⟨b, rfl, k⟩ := h
    refine ⟨_, PSs.nox (pss_one (ps_ret (pe_ifExp (pt_val (pv 0)) pe_str pe_str))), ?_⟩
    refine ⟨_, rfl, _, rfl, ?_⟩
    cases b with
    | true => exact k
    | false => exact k
/-! ### _law_count -/
def nums (a : Int) (n : Nat) : List Str := (List.range n).map fun i : Nat => numS (a + (i : Int))
def countIn (z : Str) (a b : Int) : Bool := decide (z ∈ nums a (b + 1 - a).toNat)
theorem sc_law_count : FnScope ["_law_word", "_law_low", "_law_top", "_law_known", "_law_k"] ["_law_word", "_law_low", "_law_top"] (defScope s__law_count) := ⟨rfl, rfl, rfl, by decide +kernel, rfl, by decide +kernel, by decide +kernel⟩
def sp_law_count : Sp := fun vs H Q _ => ∃ (z : Str) (a b : Int), vs = [.str z, .int a, .int b] ∧ 0 ≤ a ∧ a ≤ b ∧ b ≤ 1000 ∧ ∀ H', Ex H H' → Q (.bl (countIn z a b)) H'
theorem ok_law_count (T : Tx W) : Fn W CX0 1 (ga W.K "_law_count") ["_law_word", "_law_low", "_law_top"] sp_law_count := by
  obtain ⟨fd, F⟩ := T.d__law_count
  refine ⟨⟨fd, ?_, F.bindsN fun _ _ _ _ _ _ us hl => match us, hl with | [_, _, _], _ => rfl⟩, F.kp⟩
  refine F.ok sc_law_count (fun vs H Q E h => ?_) (fun cdv A outer s H vs Q E hr h => ?_)
  · obtain ⟨z, a, b, rfl, _⟩ := h
    rfl
  · obtain ⟨z, a, b, rfl, a0, ab, b1, q⟩ := h
    have nN := sc_law_count.nd
    refine ⟨_, PSs.nox (pss_cons (ps_setLc (i := 3) (own := [("_law_k", 4)]) (g := gName 4) (tt := tYes) rfl nN rfl rfl (sw_true rfl rfl rfl (by decide +kernel)) (pi_range2 (by rfl) T.f_range (pa_cons (pv 1) (pa_cons (pe_op op_add (pv 2) pe_int) pa_nil))) (blkOk_by (N := ["_law_word", "_law_low", "_law_top", "_law_known", "_law_k"]) (sc := defScope s__law_count) (by decide +kernel))
        (fun _ _ _ _ _ => pg_name (i := 4) nN rfl (Or.inl rfl)) (fun _ _ _ _ _ => pts_nil) (fun _ _ _ _ _ => pe_callTy call_str_int (by rfl) T.f_str (by decide +kernel) (pa_cons (pv 4) pa_nil)))
      (pss_one (ps_ret (pe_cmpR op_in_seq (pv 0) (pv 3) rfl)))), ?_⟩
    refine ⟨_, rfl, _, rfl, _, _, rfl, rfl, _, _, rfl, ⟨by omega, by omega, by omega, by omega⟩, fun D hD => ?_⟩
    refine lc_pure (walk_range (lo := a) (n := (b + 1 - a).toNat)) ((nums a (b + 1 - a).toNat).map V.str) ?_ (by omega) hD (fun _ => True.intro) (fun i x y u H'' R R' hi hy hx r => ?_) ?_
    · unfold nums
      rw [List.length_map, List.length_map, List.length_range]
    · obtain ⟨rfl, rfl⟩ := hx
      have e : V.str (numS (a + (i : Int))) = y := by
        unfold nums at hy
        rw [List.getElem?_map, List.getElem?_map, List.getElem?_range hi] at hy
        exact Option.some.inj hy
      subst e
      refine ⟨rfl, _, rfl, _, rfl, ?_, r⟩
      have h1 : (a + (i : Int)).natAbs < 2 ^ 10 := by omega
      rcases Nat.eq_zero_or_pos (a + (i : Int)).natAbs with z | z
      · rw [z]; decide
      · exact Nat.lt_trans ((Nat.log2_lt (by omega)).2 h1) (by decide)
    · refine ⟨_, rfl, _, rfl, D, _, rfl, .inl (SqL.of upd_same), rfl, flat_strs _, ?_⟩
      show Q (.bl (inV (.str z) ((nums a (b + 1 - a).toNat).map V.str))) _
      rw [inV_strs]
      exact q _ ((Ex.refl H).more hD)
/-! ### _law_options -/
def optTab : List (Str × List Str) := [("together", ["yes", "no"]), ("doubles", ["whole", "even", "split"]), ("again", ["yes", "no"]), ("slot", ["4", "8"]), ("natural", ["yes", "no"]), ("home", ["0", "16", "32"]), ("tail", ["same", "slots"])]
def OptsAt (H : Hp) (l : Addr) : Prop := ∃ rs : List Addr, H l = some (.lst (rs.map V.ref)) ∧ Paired (fun r (t : Str × List Str) => ∃ w, H r = some (.lst [.str t.1, .ref w]) ∧ H w = some (.lst (t.2.map V.str))) rs optTab
theorem sc_law_options : FnScope ["_law_truths", "_law_found"] [] (defScope s__law_options) := ⟨rfl, rfl, rfl, by decide +kernel, rfl, by decide +kernel, by decide +kernel⟩
def sp_law_options : Sp := fun vs H Q _ => vs = [] ∧ ∀ H' l, Ex H H' → OptsAt H' l → Q (.ref l) H'
theorem ok_law_options (T : Tx W) : Fn W CX0 1 (ga W.K "_law_options") [] sp_law_options := by
  obtain ⟨fd, F⟩ := T.d__law_options
  refine ⟨⟨fd, ?_, F.bindsN fun _ _ _ _ _ _ us hl => match us, hl with | [], _ => rfl⟩, F.kp⟩
  refine F.ok sc_law_options (fun vs H Q E h => ?_) (fun cdv A outer s H vs Q E hr h => ?_)
  · obtain ⟨rfl, _⟩ := h
    rfl
  · obtain ⟨rfl, q⟩ := h
    have nN := sc_law_options.nd
    refine ⟨_, PSs.nox (pss_cons (ps_set (i := 0) nN rfl (Or.inl rfl) (pe_lst (pa_cons pe_str (pa_cons pe_str pa_nil))))
      (pss_cons (ps_set (i := 1) nN rfl (Or.inl rfl) (pe_lst (pa_cons (pe_lst (pa_cons pe_str (pa_cons (pv 0) pa_nil))) (pa_cons (pe_lst (pa_cons pe_str (pa_cons (pe_lst (pa_cons pe_str (pa_cons pe_str (pa_cons pe_str pa_nil)))) pa_nil))) (pa_cons (pe_lst (pa_cons pe_str (pa_cons (pv 0) pa_nil))) (pa_cons (pe_lst (pa_cons pe_str (pa_cons (pe_lst (pa_cons pe_str (pa_cons pe_str pa_nil))) pa_nil))) pa_nil))))))
      (pss_one (ps_ret (pe_op op_cat (pv 1) (pe_lst (pa_cons (pe_lst (pa_cons pe_str (pa_cons (pv 0) pa_nil))) (pa_cons (pe_lst (pa_cons pe_str (pa_cons (pe_lst (pa_cons pe_str (pa_cons pe_str (pa_cons pe_str pa_nil)))) pa_nil))) (pa_cons (pe_lst (pa_cons pe_str (pa_cons (pe_lst (pa_cons pe_str (pa_cons pe_str pa_nil))) pa_nil))) pa_nil))))))))), ?_⟩
    refine ⟨by show 2 ≤ sizeLine; decide, fun t ht => ?_⟩
    have e1 : Ex H (upd H t (.lst [V.str "yes", V.str "no"])) := (Ex.refl _).more ht
    have x1 := upd_same (H := H) (a := t) (o := .lst [V.str "yes", V.str "no"])
    generalize hh1 : upd H t (.lst _) = H1 at e1 x1 ⊢
    clear hh1
    refine ⟨_, rfl, by show 2 ≤ sizeLine; decide, fun r1 hr1 => ?_⟩
    have e2 : Ex H1 (upd H1 r1 (.lst [V.str "together", V.ref t])) := (Ex.refl _).more hr1
    have x2 := upd_same (H := H1) (a := r1) (o := .lst [V.str "together", V.ref t])
    generalize hh2 : upd H1 r1 (.lst _) = H2 at e2 x2 ⊢
    clear hh2
    refine ⟨by show 3 ≤ sizeLine; decide, fun w2 hw2 => ?_⟩
    have e3 : Ex H2 (upd H2 w2 (.lst [V.str "whole", V.str "even", V.str "split"])) := (Ex.refl _).more hw2
    have x3 := upd_same (H := H2) (a := w2) (o := .lst [V.str "whole", V.str "even", V.str "split"])
    generalize hh3 : upd H2 w2 (.lst _) = H3 at e3 x3 ⊢
    clear hh3
    refine ⟨by show 2 ≤ sizeLine; decide, fun r2 hr2 => ?_⟩
    have e4 : Ex H3 (upd H3 r2 (.lst [V.str "doubles", V.ref w2])) := (Ex.refl _).more hr2
    have x4 := upd_same (H := H3) (a := r2) (o := .lst [V.str "doubles", V.ref w2])
    generalize hh4 : upd H3 r2 (.lst _) = H4 at e4 x4 ⊢
    clear hh4
    refine ⟨_, rfl, by show 2 ≤ sizeLine; decide, fun r3 hr3 => ?_⟩
    have e5 : Ex H4 (upd H4 r3 (.lst [V.str "again", V.ref t])) := (Ex.refl _).more hr3
    have x5 := upd_same (H := H4) (a := r3) (o := .lst [V.str "again", V.ref t])
    generalize hh5 : upd H4 r3 (.lst _) = H5 at e5 x5 ⊢
    clear hh5
    refine ⟨by show 2 ≤ sizeLine; decide, fun w4 hw4 => ?_⟩
    have e6 : Ex H5 (upd H5 w4 (.lst [V.str "4", V.str "8"])) := (Ex.refl _).more hw4
    have x6 := upd_same (H := H5) (a := w4) (o := .lst [V.str "4", V.str "8"])
    generalize hh6 : upd H5 w4 (.lst _) = H6 at e6 x6 ⊢
    clear hh6
    refine ⟨by show 2 ≤ sizeLine; decide, fun r4 hr4 => ?_⟩
    have e7 : Ex H6 (upd H6 r4 (.lst [V.str "slot", V.ref w4])) := (Ex.refl _).more hr4
    have x7 := upd_same (H := H6) (a := r4) (o := .lst [V.str "slot", V.ref w4])
    generalize hh7 : upd H6 r4 (.lst _) = H7 at e7 x7 ⊢
    clear hh7
    refine ⟨by show 4 ≤ sizeLine; decide, fun l1 hl1 => ?_⟩
    have e8 : Ex H7 (upd H7 l1 (.lst [V.ref r1, V.ref r2, V.ref r3, V.ref r4])) := (Ex.refl _).more hl1
    have x8 := upd_same (H := H7) (a := l1) (o := .lst [V.ref r1, V.ref r2, V.ref r3, V.ref r4])
    generalize hh8 : upd H7 l1 (.lst _) = H8 at e8 x8 ⊢
    clear hh8
    refine ⟨_, rfl, _, rfl, by show 2 ≤ sizeLine; decide, fun r5 hr5 => ?_⟩
    have e9 : Ex H8 (upd H8 r5 (.lst [V.str "natural", V.ref t])) := (Ex.refl _).more hr5
    have x9 := upd_same (H := H8) (a := r5) (o := .lst [V.str "natural", V.ref t])
    generalize hh9 : upd H8 r5 (.lst _) = H9 at e9 x9 ⊢
    clear hh9
    refine ⟨by show 3 ≤ sizeLine; decide, fun w6 hw6 => ?_⟩
    have e10 : Ex H9 (upd H9 w6 (.lst [V.str "0", V.str "16", V.str "32"])) := (Ex.refl _).more hw6
    have x10 := upd_same (H := H9) (a := w6) (o := .lst [V.str "0", V.str "16", V.str "32"])
    generalize hh10 : upd H9 w6 (.lst _) = H10 at e10 x10 ⊢
    clear hh10
    refine ⟨by show 2 ≤ sizeLine; decide, fun r6 hr6 => ?_⟩
    have e11 : Ex H10 (upd H10 r6 (.lst [V.str "home", V.ref w6])) := (Ex.refl _).more hr6
    have x11 := upd_same (H := H10) (a := r6) (o := .lst [V.str "home", V.ref w6])
    generalize hh11 : upd H10 r6 (.lst _) = H11 at e11 x11 ⊢
    clear hh11
    refine ⟨by show 2 ≤ sizeLine; decide, fun w7 hw7 => ?_⟩
    have e12 : Ex H11 (upd H11 w7 (.lst [V.str "same", V.str "slots"])) := (Ex.refl _).more hw7
    have x12 := upd_same (H := H11) (a := w7) (o := .lst [V.str "same", V.str "slots"])
    generalize hh12 : upd H11 w7 (.lst _) = H12 at e12 x12 ⊢
    clear hh12
    refine ⟨by show 2 ≤ sizeLine; decide, fun r7 hr7 => ?_⟩
    have e13 : Ex H12 (upd H12 r7 (.lst [V.str "tail", V.ref w7])) := (Ex.refl _).more hr7
    have x13 := upd_same (H := H12) (a := r7) (o := .lst [V.str "tail", V.ref w7])
    generalize hh13 : upd H12 r7 (.lst _) = H13 at e13 x13 ⊢
    clear hh13
    refine ⟨by show 3 ≤ sizeLine; decide, fun l2 hl2 => ?_⟩
    have e14 : Ex H13 (upd H13 l2 (.lst [V.ref r5, V.ref r6, V.ref r7])) := (Ex.refl _).more hl2
    have x14 := upd_same (H := H13) (a := l2) (o := .lst [V.ref r5, V.ref r6, V.ref r7])
    generalize hh14 : upd H13 l2 (.lst _) = H14 at e14 x14 ⊢
    clear hh14
    refine ⟨l1, l2, _, _, rfl, rfl, e14 _ _ (e13 _ _ (e12 _ _ (e11 _ _ (e10 _ _ (e9 _ _ (x8)))))), x14, by show 7 ≤ sizeLine; decide, fun l hl => ?_⟩
    have eN : ∀ {a : Addr} {o : HO}, H14 a = some o → upd H14 l (.lst [V.ref r1, V.ref r2, V.ref r3, V.ref r4, V.ref r5, V.ref r6, V.ref r7]) a = some o := fun h => ((Ex.refl _).more hl) _ _ h
    refine q _ l ((((((((((((((e1.trans e2).trans e3).trans e4).trans e5).trans e6).trans e7).trans e8).trans e9).trans e10).trans e11).trans e12).trans e13).trans e14).more hl) ⟨[r1, r2, r3, r4, r5, r6, r7], upd_same, .cons ⟨t, eN (e14 _ _ (e13 _ _ (e12 _ _ (e11 _ _ (e10 _ _ (e9 _ _ (e8 _ _ (e7 _ _ (e6 _ _ (e5 _ _ (e4 _ _ (e3 _ _ (x2))))))))))))), eN (e14 _ _ (e13 _ _ (e12 _ _ (e11 _ _ (e10 _ _ (e9 _ _ (e8 _ _ (e7 _ _ (e6 _ _ (e5 _ _ (e4 _ _ (e3 _ _ (e2 _ _ (x1))))))))))))))⟩ (.cons ⟨w2, eN (e14 _ _ (e13 _ _ (e12 _ _ (e11 _ _ (e10 _ _ (e9 _ _ (e8 _ _ (e7 _ _ (e6 _ _ (e5 _ _ (x4))))))))))), eN (e14 _ _ (e13 _ _ (e12 _ _ (e11 _ _ (e10 _ _ (e9 _ _ (e8 _ _ (e7 _ _ (e6 _ _ (e5 _ _ (e4 _ _ (x3))))))))))))⟩ (.cons ⟨t, eN (e14 _ _ (e13 _ _ (e12 _ _ (e11 _ _ (e10 _ _ (e9 _ _ (e8 _ _ (e7 _ _ (e6 _ _ (x5)))))))))), eN (e14 _ _ (e13 _ _ (e12 _ _ (e11 _ _ (e10 _ _ (e9 _ _ (e8 _ _ (e7 _ _ (e6 _ _ (e5 _ _ (e4 _ _ (e3 _ _ (e2 _ _ (x1))))))))))))))⟩ (.cons ⟨w4, eN (e14 _ _ (e13 _ _ (e12 _ _ (e11 _ _ (e10 _ _ (e9 _ _ (e8 _ _ (x7)))))))), eN (e14 _ _ (e13 _ _ (e12 _ _ (e11 _ _ (e10 _ _ (e9 _ _ (e8 _ _ (e7 _ _ (x6)))))))))⟩ (.cons ⟨t, eN (e14 _ _ (e13 _ _ (e12 _ _ (e11 _ _ (e10 _ _ (x9)))))), eN (e14 _ _ (e13 _ _ (e12 _ _ (e11 _ _ (e10 _ _ (e9 _ _ (e8 _ _ (e7 _ _ (e6 _ _ (e5 _ _ (e4 _ _ (e3 _ _ (e2 _ _ (x1))))))))))))))⟩ (.cons ⟨w6, eN (e14 _ _ (e13 _ _ (e12 _ _ (x11)))), eN (e14 _ _ (e13 _ _ (e12 _ _ (e11 _ _ (x10)))))⟩ (.cons ⟨w7, eN (e14 _ _ (x13)), eN (e14 _ _ (e13 _ _ (x12)))⟩ (.nil)))))))⟩
end
end U
/-! ## the law: _law_is_kind -/
namespace U
open PySem PySem.Spec PyProof.Rows L2 StX TL
section
variable {W : Wd}
def sizesT : List Str := ["1", "2", "4", "8", "16"]
def groupsT : List Str := ["whole", "float"]
def lawKind (ws ns : List Str) : Bool := match ws with
  | [a, b, c, d, e, f] => decide (a = Str.ofString "kind") && (decide (ns.length < 5) && (decide (b ∉ ns) && (isName b && (decide (c ∈ groupsT) && (decide (d ∈ sizesT) && (countIn e (if valT d = 16 then 65 else 2) (8 * valT d) && decide (f ∈ sizesT)))))))
  | _ => false
abbrev ikN : List Str := ["_law_words", "_law_names", "_law_byt", "_law_letter"]
theorem sc_law_is_kind : FnScope ikN ["_law_words", "_law_names"] (defScope s__law_is_kind) := ⟨rfl, rfl, rfl, by decide +kernel, rfl, by decide +kernel, by decide +kernel⟩
def sp_law_is_kind : Sp := fun vs H Q _ => ∃ (p l : Addr) (ws ns : List Str), vs = [.ref p, .ref l] ∧ H p = some (.lst (ws.map V.str)) ∧ H l = some (.lst (ns.map V.str)) ∧ (∀ w ∈ ws, w.length ≤ 16777216) ∧ ∀ H', Ex H H' → Q (.bl (lawKind ws ns)) H'
theorem size_word {d : Str} (h : d ∈ sizesT) : isDec d = true ∧ d.length ≤ 2 ∧ 1 ≤ valT d ∧ valT d ≤ 16 := by
  unfold sizesT at h
  simp only [List.mem_cons, List.not_mem_nil, or_false] at h
  rcases h with h | h | h | h | h <;> subst h <;> decide +kernel
theorem ok_law_is_kind (T : Tx W) : Fn W CX0 2 (ga W.K "_law_is_kind") ["_law_words", "_law_names"] sp_law_is_kind := by
  obtain ⟨fd, F⟩ := T.d__law_is_kind
  refine ⟨⟨fd, ?_, F.bindsN fun _ _ _ _ _ _ us hl => match us, hl with | [_, _], _ => rfl⟩, F.kp⟩
  refine F.ok sc_law_is_kind (fun vs H Q E h => ?_) (fun cdv A outer s H vs Q E hr h => ?_)
  · obtain ⟨p, l, ws, ns, rfl, _⟩ := h
    rfl
  · obtain ⟨p, l, ws, ns, rfl, hp, hl, hw, q⟩ := h
    have nN := sc_law_is_kind.nd
    have k2 : ∀ (b : Bool) (H' : Hp), lawKind ws ns = b → Ex H H' → Q (.bl b) H' := fun b H' e x => by rw [← e]; exact q H' x
    refine ⟨_, PSs.nox (pss_cons (ps_if (PW.pt (pw_or (pt_cmpR op_ne (pe_callB call_len_seq (by rfl) T.f_len (by decide +kernel) (pa_cons (pv 0) pa_nil)) pe_int (nomark _)) (pw_or (pt_cmpR op_ne (pe_ix ix_list (pv 0) pe_int (fun _ _ => rfl)) pe_str (nomark _)) (pw_or (pt_cmpR op_ge (pe_callB call_len_seq (by rfl) T.f_len (by decide +kernel) (pa_cons (pv 1) pa_nil)) pe_int (nomark _)) (pw_or1 (pt_cmpR op_in_seq (pe_ix ix_list (pv 0) pe_int (fun _ _ => rfl)) (pv 1) rfl)))))) (pss_one (ps_ret pe_bl)) pss_nil)
      (pss_cons (ps_if (PW.pt (pw_or (pt_not (pt_chain op_le op_le pe_int (pe_callB call_len_str (by rfl) T.f_len (by decide +kernel) (pa_cons (pe_ix ix_list (pv 0) pe_int (fun _ _ => rfl)) pa_nil)) pe_int)) (pw_or1 (pt_not (pt_val (pe_callB (cr_all rfl) (by rfl) T.f_all (by decide +kernel) (pa_cons (pe_lc (own := [("_law_letter", 3)]) (g := gName 3) (tt := tYes) rfl nN (pi_str (pe_ix ix_list (pv 0) pe_int (fun _ _ => rfl))) (blkOk_by (N := ikN) (sc := defScope s__law_is_kind) (by decide +kernel))
            (fun _ _ _ _ _ => pg_name (i := 3) nN rfl (Or.inl rfl)) (fun _ _ _ _ _ => pts_nil) (fun _ _ _ _ _ => pe_cmpR op_in_sign (pv 3) pe_str rfl)) pa_nil))))))) (pss_one (ps_ret pe_bl)) pss_nil)
      (pss_cons (ps_if (PW.pt (pw_or (pt_cmpR op_notIn_seq (pe_ix ix_list (pv 0) pe_int (fun _ _ => rfl)) (pe_lst (pa_cons pe_str (pa_cons pe_str pa_nil))) rfl) (pw_or1 (pt_cmpR op_notIn_seq (pe_ix ix_list (pv 0) pe_int (fun _ _ => rfl)) (pe_lst (pa_cons pe_str (pa_cons pe_str (pa_cons pe_str (pa_cons pe_str (pa_cons pe_str pa_nil)))))) rfl)))) (pss_one (ps_ret pe_bl)) pss_nil)
      (pss_cons (ps_set (i := 2) nN rfl (Or.inl rfl) (pe_callTy call_int_str (by rfl) T.f_int (by decide +kernel) (pa_cons (pe_ix ix_list (pv 0) pe_int (fun _ _ => rfl)) pa_nil)))
      (pss_one (ps_ret (pe_and (u_call (ok_law_count T) T.g__law_count hr (pa_cons (pe_ix ix_list (pv 0) pe_int (fun _ _ => rfl)) (pa_cons (pe_ifExp (pt_cmpR op_eq (pv 2) pe_int (nomark _)) pe_int pe_int) (pa_cons (pe_op op_mul pe_int (pv 2)) pa_nil)))) (pe_one (pe_cmpR op_in_seq (pe_ix ix_list (pv 0) pe_int (fun _ _ => rfl)) (pe_lst (pa_cons pe_str (pa_cons pe_str (pa_cons pe_str (pa_cons pe_str (pa_cons pe_str pa_nil)))))) rfl))))))))), ?_⟩
    have len6 : ws.length ≠ 6 → lawKind ws ns = false := fun h => by
      unfold lawKind
      split
      · exact absurd rfl h
      · rfl
    refine ⟨_, rfl, p, _, rfl, .inl (SqL.of hp), rfl, _, rfl, ?_⟩
    refine iteB (c := !_) (fun z1 => k2 false H (len6 ?_) (Ex.refl H)) (fun z1 => ?_)
    · intro e
      have e2 : ((ws.map V.str).length : Int) = 6 := by rw [List.length_map, e]; rfl
      rw [decide_eq_true (by rw [e2])] at z1
      cases z1
    · obtain ⟨a, b, c, d, e, f, rfl⟩ : ∃ a b c d e f, ws = [a, b, c, d, e, f] := by
        have h2 := nf z1
        rw [eI] at h2
        have h3 := of_decide_eq_true h2
        rw [List.length_map] at h3
        have h4 : ws.length = 6 := by omega
        match ws, h4 with
        | [a, b, c, d, e, f], _ => exact ⟨a, b, c, d, e, f, rfl⟩
      have base : lawKind [a, b, c, d, e, f] ns = (decide (a = Str.ofString "kind") && (decide (ns.length < 5) && (decide (b ∉ ns) && (isName b && (decide (c ∈ groupsT) && (decide (d ∈ sizesT) && (countIn e (if valT d = 16 then 65 else 2) (8 * valT d) && decide (f ∈ sizesT)))))))) := rfl
      refine ⟨_, rfl, p, _, _, _, rfl, rfl, SqL.of hp, rfl, rfl, _, rfl, ?_⟩
      rw [eS]
      refine iteB (c := !_) (fun z2 => k2 false H ?_ (Ex.refl H)) (fun z2 => ?_)
      · rw [base, nb z2]
        rfl
      · rw [nf z2, Bool.true_and] at base
        refine ⟨_, rfl, l, _, rfl, .inl (SqL.of hl), _, _, rfl, rfl, _, rfl, ?_⟩
        refine iteB (fun z3 => k2 false H ?_ (Ex.refl H)) (fun z3 => ?_)
        · have v := of_decide_eq_true z3
          rw [List.length_map] at v
          rw [base, decide_eq_false (show ¬ ns.length < 5 by omega)]
          rfl
        · have v := of_decide_eq_false z3
          rw [List.length_map] at v
          rw [decide_eq_true (show ns.length < 5 by omega), Bool.true_and] at base
          refine ⟨_, rfl, p, _, _, _, rfl, rfl, SqL.of hp, rfl, _, rfl, l, _, rfl, .inl (SqL.of hl), rfl, flat_strs _, _, rfl, ?_⟩
          show if inV (.str b) (ns.map V.str) = true then _ else _
          rw [inV_strs]
          refine iteB (fun z4 => k2 false H ?_ (Ex.refl H)) (fun z4 => ?_)
          · rw [base, decide_eq_false (fun h => h (of_decide_eq_true z4))]
            rfl
          · rw [decide_eq_true (of_decide_eq_false z4), Bool.true_and] at base
            have lb : b.length ≤ 16777216 := hw b (by simp)
            refine ⟨_, rfl, p, _, _, _, rfl, rfl, SqL.of hp, rfl, b, rfl, by rw [sizeLine_eq]; exact lb, _, _, rfl, rfl, _, rfl, ?_⟩
            have bad1 : decide ((1 : Int) ≤ (b.length : Int)) = false → lawKind [a, b, c, d, e, f] ns = false := fun h1 => by
              have h3 : ¬ 1 ≤ b.length := fun q => by
                have := of_decide_eq_false h1
                omega
              have hn : isName b = false := by
                show (decide (1 ≤ b.length) && _) = false
                rw [decide_eq_false h3, Bool.false_and]
              rw [base, hn]
              rfl
            refine iteB (fun h1 => ?_) (fun h1 => ⟨_, rfl, iteT (k2 false H (bad1 h1) (Ex.refl H))⟩)
            refine ⟨_, _, rfl, rfl, _, rfl, ?_⟩
            refine iteB (c := !_) (fun h2 => k2 false H ?_ (Ex.refl H)) (fun h2 => ?_)
            · have h3 : ¬ b.length ≤ 8 := fun q => by
                have : decide ((b.length : Int) ≤ 8) = true := decide_eq_true (by omega)
                rw [this] at h2
                cases h2
              have hn : isName b = false := by
                show (_ && (decide (b.length ≤ 8) && _)) = false
                rw [decide_eq_false h3, Bool.false_and, Bool.and_false]
              rw [base, hn]
              rfl
            refine ⟨_, rfl, p, _, _, _, rfl, rfl, SqL.of hp, rfl, b, rfl, fun D hD => lc_pure walk_str ((b.cps.toList.map (inT LETTERS)).map V.bl) ?_ ?_ hD (fun _ => True.intro) (fun i x y u H'' R R' hi hy hx r => ?_) ?_⟩
            · simp
            · exact lb
            · obtain ⟨rfl, ch, hc, rfl⟩ := hx
              have ey : y = .bl (inT LETTERS ch) := by
                rw [List.getElem?_map, List.getElem?_map] at hy
                have e1 : b.cps.toList[i]? = some ch := by simpa using hc
                rw [e1] at hy
                exact (Option.some.inj hy).symm
              subst ey
              exact ⟨rfl, _, rfl, ch, _, rfl, rfl, r⟩
            have h3 : decide (b.length ≤ 8) = true := by
              have := nf h2
              have := of_decide_eq_true this
              exact decide_eq_true (by omega)
            have h4 : decide (1 ≤ b.length) = true := decide_eq_true (by have := of_decide_eq_true h1; omega)
            have hnm : isName b = allIn LETTERS b := by
              show (decide (1 ≤ b.length) && (decide (b.length ≤ 8) && allIn LETTERS b)) = _
              rw [h3, h4, Bool.true_and, Bool.true_and]
            refine ⟨D, b.cps.toList.map (inT LETTERS), rfl, SqL.of upd_same, _, rfl, ?_⟩
            rw [map_all rfl, ← hnm]
            have eH1 : Ex H (upd H D (.lst ((b.cps.toList.map (inT LETTERS)).map V.bl))) := (Ex.refl H).more hD
            generalize upd H D (.lst ((b.cps.toList.map (inT LETTERS)).map V.bl)) = H1 at eH1 ⊢
            refine iteB (c := !_) (fun z5 => k2 false H1 ?_ eH1) (fun z5 => ?_)
            · rw [base, nb z5]
              rfl
            rw [nf z5, Bool.true_and] at base
            have hp1 := eH1 _ _ hp
            refine ⟨_, rfl, p, _, _, _, rfl, rfl, SqL.of hp1, rfl, by show 2 ≤ sizeLine; decide, fun l2 hl2 => ?_⟩
            have eH2 : Ex H (upd H1 l2 (.lst [V.str "whole", .str "float"])) := eH1.more hl2
            refine ⟨l2, _, rfl, .inl (SqL.of upd_same), rfl, rfl, ?_⟩
            show ∃ k, V.bl (!inV (.str c) (groupsT.map V.str)) = .bl k ∧ _
            rw [inV_strs]
            refine ⟨_, rfl, ?_⟩
            generalize upd H1 l2 (.lst [V.str "whole", .str "float"]) = H2 at eH2 ⊢
            refine iteB (c := !_) (fun z6 => k2 false H2 ?_ eH2) (fun z6 => ?_)
            · rw [base, nb z6]
              rfl
            rw [nf z6, Bool.true_and] at base
            have hp2 := eH2 _ _ hp
            refine ⟨_, rfl, p, _, _, _, rfl, rfl, SqL.of hp2, rfl, by show 5 ≤ sizeLine; decide, fun l3 hl3 => ?_⟩
            have eH3 : Ex H (upd H2 l3 (.lst [V.str "1", .str "2", .str "4", .str "8", .str "16"])) := eH2.more hl3
            refine ⟨l3, _, rfl, .inl (SqL.of upd_same), rfl, rfl, ?_⟩
            show ∃ k, V.bl (!inV (.str d) (sizesT.map V.str)) = .bl k ∧ _
            rw [inV_strs]
            refine ⟨_, rfl, ?_⟩
            generalize upd H2 l3 (.lst [V.str "1", .str "2", .str "4", .str "8", .str "16"]) = H3 at eH3 ⊢
            refine iteB (c := !_) (fun z7 => k2 false H3 ?_ eH3) (fun z7 => ?_)
            · rw [base, nb z7]
              rfl
            rw [nf z7, Bool.true_and] at base
            have hp3 := eH3 _ _ hp
            obtain ⟨d1, d2, d3, d4⟩ := size_word (of_decide_eq_true (nf z7))
            refine ⟨_, rfl, p, _, _, V.str d, rfl, rfl, SqL.of hp3, rfl, d, _, rfl, int_of_dec d1 (by omega), by omega, ?_⟩
            refine ⟨_, rfl, p, _, _, V.str e, rfl, rfl, SqL.of hp3, rfl, _, rfl, rfl, _, rfl, ?_⟩
            rw [eI]
            by_cases h16 : valT d = 16
            · rw [decide_eq_true h16]
              refine ⟨_, rfl, _, _, rfl, rfl, .inl ⟨by decide, by decide⟩, e, _, _, rfl, by decide, by omega, by omega, fun H4 e4 => ⟨_, rfl, ?_⟩⟩
              have hp4 := e4 _ _ hp3
              have cnt : countIn e (if valT d = 16 then 65 else 2) (8 * valT d) = countIn e 65 (8 * valT d) := by rw [if_pos h16]
              rw [cnt] at base
              refine iteB (fun z8 => ?_) (fun z8 => k2 false H4 ?_ (eH3.trans e4))
              · rw [z8, Bool.true_and] at base
                refine ⟨_, rfl, p, _, _, _, rfl, rfl, SqL.of hp4, rfl, by show 5 ≤ sizeLine; decide, fun l4 hl4 => ⟨l4, _, rfl, .inl (SqL.of upd_same), rfl, rfl, ?_⟩⟩
                show Q (.bl (inV (.str f) (sizesT.map V.str))) _
                rw [inV_strs]
                exact k2 _ _ base ((eH3.trans e4).more hl4)
              · rw [base, z8]
                rfl
            · rw [decide_eq_false h16]
              refine ⟨_, rfl, _, _, rfl, rfl, .inl ⟨by decide, by decide⟩, e, _, _, rfl, by decide, by omega, by omega, fun H4 e4 => ⟨_, rfl, ?_⟩⟩
              have hp4 := e4 _ _ hp3
              have cnt : countIn e (if valT d = 16 then 65 else 2) (8 * valT d) = countIn e 2 (8 * valT d) := by rw [if_neg h16]
              rw [cnt] at base
              refine iteB (fun z8 => ?_) (fun z8 => k2 false H4 ?_ (eH3.trans e4))
              · rw [z8, Bool.true_and] at base
                refine ⟨_, rfl, p, _, _, _, rfl, rfl, SqL.of hp4, rfl, by show 5 ≤ sizeLine; decide, fun l4 hl4 => ⟨l4, _, rfl, .inl (SqL.of upd_same), rfl, rfl, ?_⟩⟩
                show Q (.bl (inV (.str f) (sizesT.map V.str))) _
                rw [inV_strs]
                exact k2 _ _ base ((eH3.trans e4).more hl4)
              · rw [base, z8]
                rfl
end
end U
/-! ## the law: _law_lines -/
namespace U
open PySem PySem.Spec PyProof.Rows L2 StX TL
section
variable {W : Wd}
theorem empty_app (x : Str) : Str.empty ++ x = x := ext_tl (by rw [tl_append]; rfl)
theorem app_assoc (a b c : Str) : (a ++ b) ++ c = a ++ (b ++ c) := ext_tl (by simp only [tl_append, List.append_assoc])
def kindWords (k : KindD) : List Str := [Str.ofString "kind", k.name, k.group, numS k.size, numS k.width, numS k.align]
theorem kindLine_join (k : KindD) : Txt.join SP (kindWords k) = kindLine k := by
  refine ext_tl ?_
  have e1 : tl (Str.ofString "kind ") = tl (Str.ofString "kind") ++ [32] := by decide +kernel
  have e2 : tl (Str.ofString " ") = [32] := by decide +kernel
  rw [join_eq, tl_join, tl_SP]
  unfold kindWords kindLine
  simp only [tl_append, e1, e2, List.map_cons, List.map_nil, joinL, List.append_assoc]
  rfl
theorem optLines_eq (c : ConvD) : optLines c = [(((Str.ofString "registers ") ++ numS c.wholes) ++ Str.ofString " ") ++ numS c.floats, Str.ofString "together " ++ yesNo c.together, Str.ofString "doubles " ++ c.doubles, Str.ofString "again " ++ yesNo c.again,
  Str.ofString "slot " ++ numS c.slot, Str.ofString "natural " ++ yesNo c.natural, Str.ofString "home " ++ numS c.home, Str.ofString "tail " ++ c.tail] := by
  unfold optLines regLine
  simp only [empty_app]
abbrev lnN : List Str := ["_law_kinds_here", "_law_plan_here", "_law_found", "_law_label", "_law_word", "_law_top", "_law_row"]
theorem sc_law_lines : FnScope lnN ["_law_kinds_here", "_law_plan_here"] (defScope s__law_lines) := ⟨rfl, rfl, rfl, by decide +kernel, rfl, by decide +kernel, by decide +kernel⟩
def sp_law_lines : Sp := fun vs H Q _ => ∃ (d p : Addr) (es : List KEnt) (c : ConvD), vs = [.ref d, .ref p] ∧ KindsAt H d es ∧ PlanAt H p c es ∧ ∀ H' l, Ex H H' → H l = none → H' l = some (.lst ((textLines (es.map (·.2)) c).map V.str)) → Q (.ref l) H'
abbrev tRowI (K : Fg) (i : Int) : TE := tOp (rIxT K) (tVar 6) (tC (.int i))
abbrev rJoinK (K : Fg) : V → List V → Hp → VK → Prop := fun x xs H Q => ∃ a p, ∃ ys : List Str, x = .str a ∧ xs = [.ref p] ∧ (SqL K H p (ys.map V.str) ∨ SqT K H p (ys.map V.str)) ∧ (ys.map (·.length)).sum + ys.length * a.length ≤ 16777216 ∧ Q (.str (Txt.join a ys)) H
abbrev rStrI : List V → Hp → VK → Prop := fun xs H Q => ∃ n, xs = [.int n] ∧ n.natAbs.log2 < 1920 ∧ Q (.str (toString n)) H
theorem ok_law_lines (T : Tx W) : Fn W CX0 2 (ga W.K "_law_lines") ["_law_kinds_here", "_law_plan_here"] sp_law_lines := by
  obtain ⟨fd, F⟩ := T.d__law_lines
  refine ⟨⟨fd, ?_, F.bindsN fun _ _ _ _ _ _ us hl => match us, hl with | [_, _], _ => rfl⟩, F.kp⟩
  refine F.ok sc_law_lines (fun vs H Q E h => ?_) (fun cdv A outer s H vs Q E hr h => ?_)
  · obtain ⟨d, p, es, c, rfl, _⟩ := h
    rfl
  · obtain ⟨d, p, es, c, rfl, ⟨hd, tp, nd, ok, few, some_⟩, ⟨⟨fp, ps, hpd, hfp, htp, hps⟩, okc, fok⟩, q⟩ := h
    have nN := sc_law_lines.nd
    refine ⟨_, PSs.nox (pss_cons (ps_lock (ps_setLc (i := 2) (own := [("_law_row", 6)]) (g := gName 6) (tt := tYes) (te := tBM W.K "str" (rJoinK W.K) (tC (.str (Str.ofString " "))) (tCons (tLst (tCons (tC (.str (Str.ofString "kind"))) (tCons (tRowI W.K 0) (tCons (tRowI W.K 1) (tCons (tCB rStrI (tCons (tRowI W.K 2) tNil)) (tCons (tCB rStrI (tCons (tRowI W.K 3) tNil)) (tCons (tCB rStrI (tCons (tRowI W.K 4) tNil)) tNil))))))) tNil)) rfl nN rfl rfl (sw_true rfl rfl rfl (by decide +kernel)) (pi_values (pv 0)) (blkOk_by (N := lnN) (sc := defScope s__law_lines) (by decide +kernel))
          (fun _ _ _ _ _ => pg_name (i := 6) nN rfl (Or.inl rfl)) (fun _ _ _ _ _ => pts_nil) (fun _ _ _ _ _ => pe_bm PySem.F.plainAttrs_str PySem.F.slot_str_join PySem.F.type_str_join mt_join pe_str (pa_cons (pe_lst (pa_cons pe_str (pa_cons (pe_ix ix_tup (pv 6) pe_int (fun _ _ => rfl)) (pa_cons (pe_ix ix_tup (pv 6) pe_int (fun _ _ => rfl)) (pa_cons (pe_callTy call_str_int (by rfl) T.f_str (by decide +kernel) (pa_cons (pe_ix ix_tup (pv 6) pe_int (fun _ _ => rfl)) pa_nil))
            (pa_cons (pe_callTy call_str_int (by rfl) T.f_str (by decide +kernel) (pa_cons (pe_ix ix_tup (pv 6) pe_int (fun _ _ => rfl)) pa_nil)) (pa_cons (pe_callTy call_str_int (by rfl) T.f_str (by decide +kernel) (pa_cons (pe_ix ix_tup (pv 6) pe_int (fun _ _ => rfl)) pa_nil)) pa_nil))))))) pa_nil))))
      (pss_cons (ps_set (i := 2) nN rfl (Or.inl rfl) (pe_op op_cat (pv 2) (pe_lst (pa_cons (pe_op op_add_str (pe_op op_add_str (pe_op op_add_str pe_str (pe_callTy call_str_int (by rfl) T.f_str (by decide +kernel) (pa_cons (pe_dget (hu_of hr) (pv 1) pe_str (fun _ _ => rfl)) pa_nil))) pe_str) (pe_callTy call_str_int (by rfl) T.f_str (by decide +kernel) (pa_cons (pe_dget (hu_of hr) (pv 1) pe_str (fun _ _ => rfl)) pa_nil))) pa_nil))))
      (pss_cons (ps_set (i := 2) nN rfl (Or.inl rfl) (pe_op op_cat (pv 2) (pe_lst (pa_cons (pe_op op_add_str pe_str (u_call (ok_law_yes T) T.g__law_yes hr (pa_cons (pe_dget (hu_of hr) (pv 1) pe_str (fun _ _ => rfl)) pa_nil))) (pa_cons (pe_op op_add_str pe_str (pe_dget (hu_of hr) (pv 1) pe_str (fun _ _ => rfl))) pa_nil)))))
      (pss_cons (ps_set (i := 2) nN rfl (Or.inl rfl) (pe_op op_cat (pv 2) (pe_lst (pa_cons (pe_op op_add_str pe_str (u_call (ok_law_yes T) T.g__law_yes hr (pa_cons (pe_dget (hu_of hr) (pv 1) pe_str (fun _ _ => rfl)) pa_nil))) (pa_cons (pe_op op_add_str pe_str (pe_callTy call_str_int (by rfl) T.f_str (by decide +kernel) (pa_cons (pe_dget (hu_of hr) (pv 1) pe_str (fun _ _ => rfl)) pa_nil))) pa_nil)))))
      (pss_cons (ps_set (i := 2) nN rfl (Or.inl rfl) (pe_op op_cat (pv 2) (pe_lst (pa_cons (pe_op op_add_str pe_str (u_call (ok_law_yes T) T.g__law_yes hr (pa_cons (pe_dget (hu_of hr) (pv 1) pe_str (fun _ _ => rfl)) pa_nil))) (pa_cons (pe_op op_add_str pe_str (pe_callTy call_str_int (by rfl) T.f_str (by decide +kernel) (pa_cons (pe_dget (hu_of hr) (pv 1) pe_str (fun _ _ => rfl)) pa_nil))) (pa_cons (pe_op op_add_str pe_str (pe_dget (hu_of hr) (pv 1) pe_str (fun _ _ => rfl))) pa_nil))))))
      (pss_cons (ps_lock (ps_for PassesOwn.never rfl (pi_keys (pv 0)) (pg_name (i := 3) nN rfl (Or.inl rfl))
        (pss_cons (ps_asg (pe_dget (hu_of hr) (pe_dget (hu_of hr) (pv 1) pe_str (fun _ _ => rfl)) (pv 3) (fun _ _ => rfl)) (pg_tup rfl (pgs_cons (pg_name (i := 4) nN rfl (Or.inl rfl)) (pgs_cons (pg_name (i := 5) nN rfl (Or.inl rfl)) pgs_nil))))
        (pss_one (ps_if (pt_cmpR op_ne (pv 4) pe_str (nomark _)) (pss_one (ps_expr (pe_bm PySem.F.plainAttrs_list PySem.F.slot_list_append PySem.F.type_list_append mt_append (pv 2) (pa_cons (pe_op op_add_str (pe_op op_add_str (pe_op op_add_str (pe_op op_add_str (pe_op op_add_str pe_str (pv 3)) pe_str) (pv 4)) pe_str) (pe_callTy call_str_int (by rfl) T.f_str (by decide +kernel) (pa_cons (pv 5) pa_nil))) pa_nil)))) pss_nil)))))
      (pss_one (ps_ret (pv 2))))))))), ?_⟩
    have lk : (keK es).length = es.length := by
      unfold keK
      rw [List.length_map]
    have c0 : Str.empty.length = 0 := rfl
    have d1 : (Str.ofString "registers ").length = 10 := rfl
    have d2 : (Str.ofString " ").length = 1 := rfl
    have d3 : (Str.ofString "together ").length = 9 := rfl
    have d4 : (Str.ofString "doubles ").length = 8 := rfl
    have d5 : (Str.ofString "again ").length = 6 := rfl
    have d6 : (Str.ofString "slot ").length = 5 := rfl
    have d7 : (Str.ofString "natural ").length = 8 := rfl
    have d8 : (Str.ofString "home ").length = 5 := rfl
    have d9 : (Str.ofString "tail ").length = 5 := rfl
    have d10 : (Str.ofString "fill ").length = 5 := rfl
    have w3w : c.wholes ≤ 128 := by have := okc.wholes.2; omega
    have w3f : c.floats ≤ 128 := by have := okc.floats.2; omega
    have a1 := num_le okc.wholes.1 w3w
    have a2 := num_le okc.floats.1 w3f
    have a3 := yesNo_le c.together
    have a4 := yesNo_le c.again
    have a5 := yesNo_le c.natural
    have a6 := doubles_le okc
    have a7 := tail_le okc
    have a8 := num_le (slot_le okc).1 (slot_le okc).2
    have a9 := num_le (home_le okc).1 (home_le okc).2
    refine ⟨d, _, hd, True.intro, fun od => ⟨_, rfl, d, od, _, rfl, upd_same, fun D hD => ?_⟩⟩
    have tpL : ∀ e ∈ es, upd H d (.frz od (.dK (keK es))) e.1 = some (.tup (partsV e.2)) := fun e he => by
      rw [upd_ne (ne_of (tp e he) hd (by intro z; cases z))]
      exact tp e he
    have dL := upd_same (H := H) (a := d) (o := .frz od (.dK (keK es)))
    have dD : d ≠ D := ne_of_none dL hD
    have hDH : H D = none := by
      rw [upd_ne dD.symm] at hD
      exact hD
    refine lc_map (S := []) (B := upd H d (.frz od (.dK (keK es)))) (walk_values (kvs := keK es)) (es.map fun e => V.str (kindLine e.2)) (by rw [List.length_map, lk]) (by rw [lk]; omega) (Ex.refl _) hD (fun _ _ _ => True) True.intro (fun i B' H' hi at_ _ => at_.st.bh d _ (at_.st.bb d _ dL)) (fun i x y B' H' H'' R R' hi hy at_ _ hx r => ?_) (fun B' H' at_ _ => ?_)
    · obtain ⟨rfl, k, hk⟩ := hx
      obtain ⟨e, he, rfl⟩ : ∃ e, es[i]? = some e ∧ x = .ref e.1 := by
        unfold keK at hk
        rw [List.getElem?_map] at hk
        cases z : es[i]? with
        | none =>
          rw [z] at hk
          cases hk
        | some e =>
          rw [z] at hk
          exact ⟨e, rfl, (congrArg Prod.snd (Option.some.inj hk)).symm⟩
      obtain rfl : V.str (kindLine e.2) = y := by
        rw [List.getElem?_map, he] at hy
        exact Option.some.inj hy
      have hm := List.mem_of_getElem? he
      have okk := ok e hm
      obtain ⟨l1, l2, ⟨s0, s1⟩, ⟨w0, w1⟩, ⟨a0, a1⟩⟩ := kind_le okk
      have n1 := num_le s0 s1
      have n2 := num_le w0 w1
      have n3 := num_le a0 a1
      have hT := at_.st.bh _ _ (at_.st.bb _ _ (tpL e hm))
      refine ⟨rfl, rfl, _, rfl, e.1, _, _, V.str e.2.name, rfl, rfl, SqT.of hT, rfl, _, rfl, e.1, _, _, V.str e.2.group, rfl, rfl, SqT.of hT, rfl, _, rfl, e.1, _, _, V.int e.2.size, rfl, rfl, SqT.of hT, rfl, _, rfl, log_le s0 s1, _, rfl, e.1, _, _, V.int e.2.width, rfl, rfl, SqT.of hT, rfl, _, rfl, log_le w0 w1,
        _, rfl, e.1, _, _, V.int e.2.align, rfl, rfl, SqT.of hT, rfl, _, rfl, log_le a0 a1, by show 6 ≤ sizeLine; decide, fun t ht => ⟨SP, t, kindWords e.2, rfl, rfl, .inl (SqL.of upd_same), ?_, ?_⟩⟩
      · unfold kindWords
        simp only [List.map_cons, List.map_nil, List.sum_cons, List.sum_nil, List.length_cons, List.length_nil]
        have z1 : (Str.ofString "kind").length = 4 := rfl
        have z2 : SP.length = 1 := rfl
        omega
      · rw [kindLine_join]
        have e4 : Ex H'' (upd H'' t (.lst ((kindWords e.2).map V.str))) := (Ex.refl H'').more ht
        exact r B' _ ⟨⟨at_.st.bb, at_.st.bh.trans e4, fun a o n h => e4 a o (at_.st.hh a o n h), at_.st.nb⟩, e4 D _ at_.at_⟩ fun _ => True.intro
    · have hd' := at_.st.bh _ _ (at_.st.bb _ _ dL)
      have eH : Ex H (upd H' d (.dK (keK es))) := (at_.st.bb.trans at_.st.bh).unlock hd
      have hD' : upd H' d (.dK (keK es)) D = some (.lst ((es.map fun e => kindLine e.2).map V.str)) := by
        have z := at_.at_
        rw [lk, ← List.length_map (as := es) (fun e => V.str (kindLine e.2)), List.take_length] at z
        rw [upd_ne dD.symm, z, List.map_map]
        rfl
      refine ⟨hd', ?_⟩
      generalize upd H' d (.dK (keK es)) = H1 at eH hD' ⊢
      have g0 := eH _ _ hpd
      have lL : (es.map fun e => kindLine e.2).length ≤ 5 := by
        rw [List.length_map]
        exact few
      refine ⟨_, rfl, _, rfl, p, _, rfl, .inl ⟨_, Sum.inr "wholes", .inl (g0), rfl, (show valV ((kw10.map Sum.inr : List Key).zip (valsC c (.ref fp))) (Sum.inr "wholes") = some (.int c.wholes) by kernel_rfl).symm⟩, _, rfl, log_le okc.wholes.1 w3w, _, _, rfl, rfl, (by rw [sizeLine_eq]; unfold numS at *; simp only [c0, d1, d2, d3, d4, d5, d6, d7, d8, d9, str_len]; omega), _, _, rfl, rfl, (by rw [sizeLine_eq]; unfold numS at *; simp only [c0, d1, d2, d3, d4, d5, d6, d7, d8, d9, str_len]; omega), _, rfl, p, _, rfl, .inl ⟨_, Sum.inr "floats", .inl (g0), rfl, (show valV ((kw10.map Sum.inr : List Key).zip (valsC c (.ref fp))) (Sum.inr "floats") = some (.int c.floats) by kernel_rfl).symm⟩, _, rfl, log_le okc.floats.1 w3f, _, _, rfl, rfl, (by rw [sizeLine_eq]; unfold numS at *; simp only [c0, d1, d2, d3, d4, d5, d6, d7, d8, d9, str_len]; omega), by show 1 ≤ sizeLine; decide, fun a1_ ha1 => ?_⟩
      have D1 := hD'
      refine ⟨D, a1_, _, ([(((Str.ofString "registers ") ++ numS c.wholes) ++ Str.ofString " ") ++ numS c.floats] : List Str).map V.str, rfl, rfl, ((Ex.refl H1).more ha1) _ _ D1, upd_same, by rw [sizeLine_eq, List.length_map, List.length_map]; show _ + 1 ≤ _; omega, fun b1 hb1 => ?_⟩
      have nb1 : H1 b1 = none := ((Ex.refl H1).more ha1).none hb1
      generalize hh1 : upd (upd H1 a1_ _) b1 _ = H2
      have f1 : Ex H1 H2 := by rw [← hh1]; exact ((Ex.refl H1).more ha1).more hb1
      have hb1_ : H2 b1 = some (.lst (((es.map fun e => kindLine e.2) ++ [(((Str.ofString "registers ") ++ numS c.wholes) ++ Str.ofString " ") ++ numS c.floats]).map V.str)) := by rw [← hh1, upd_same]; exact congrArg (fun l => some (HO.lst l)) (List.map_append (l₁ := (es.map fun e => kindLine e.2)) (l₂ := [(((Str.ofString "registers ") ++ numS c.wholes) ++ Str.ofString " ") ++ numS c.floats]) (f := V.str)).symm
      clear hh1
      have g1 := f1 _ _ g0
      have lL1 : ((es.map fun e => kindLine e.2) ++ [(((Str.ofString "registers ") ++ numS c.wholes) ++ Str.ofString " ") ++ numS c.floats]).length ≤ 6 := by rw [List.length_append]; show _ + 1 ≤ _; omega
      refine ⟨_, rfl, _, rfl, p, _, rfl, .inl ⟨_, Sum.inr "together", .inl (g1), rfl, (show valV ((kw10.map Sum.inr : List Key).zip (valsC c (.ref fp))) (Sum.inr "together") = some (.bl c.together) by kernel_rfl).symm⟩, _, rfl, _, _, rfl, rfl, (by rw [sizeLine_eq]; unfold numS at *; simp only [c0, d1, d2, d3, d4, d5, d6, d7, d8, d9, str_len]; omega), _, rfl, p, _, rfl, .inl ⟨_, Sum.inr "doubles", .inl (g1), rfl, (show valV ((kw10.map Sum.inr : List Key).zip (valsC c (.ref fp))) (Sum.inr "doubles") = some (.str c.doubles) by kernel_rfl).symm⟩, _, _, rfl, rfl, (by rw [sizeLine_eq]; unfold numS at *; simp only [c0, d1, d2, d3, d4, d5, d6, d7, d8, d9, str_len]; omega), by show 2 ≤ sizeLine; decide, fun a2_ ha2 => ?_⟩
      have D2 := hb1_
      refine ⟨b1, a2_, _, ([Str.ofString "together " ++ yesNo c.together, Str.ofString "doubles " ++ c.doubles] : List Str).map V.str, rfl, rfl, ((Ex.refl H2).more ha2) _ _ D2, upd_same, by rw [sizeLine_eq, List.length_map, List.length_map]; show _ + 2 ≤ _; omega, fun b2 hb2 => ?_⟩
      have nb2 : H2 b2 = none := ((Ex.refl H2).more ha2).none hb2
      generalize hh2 : upd (upd H2 a2_ _) b2 _ = H3
      have f2 : Ex H2 H3 := by rw [← hh2]; exact ((Ex.refl H2).more ha2).more hb2
      have hb2_ : H3 b2 = some (.lst ((((es.map fun e => kindLine e.2) ++ [(((Str.ofString "registers ") ++ numS c.wholes) ++ Str.ofString " ") ++ numS c.floats]) ++ [Str.ofString "together " ++ yesNo c.together, Str.ofString "doubles " ++ c.doubles]).map V.str)) := by rw [← hh2, upd_same]; exact congrArg (fun l => some (HO.lst l)) (List.map_append (l₁ := ((es.map fun e => kindLine e.2) ++ [(((Str.ofString "registers ") ++ numS c.wholes) ++ Str.ofString " ") ++ numS c.floats])) (l₂ := [Str.ofString "together " ++ yesNo c.together, Str.ofString "doubles " ++ c.doubles]) (f := V.str)).symm
      clear hh2
      have g2 := f2 _ _ g1
      have lL2 : (((es.map fun e => kindLine e.2) ++ [(((Str.ofString "registers ") ++ numS c.wholes) ++ Str.ofString " ") ++ numS c.floats]) ++ [Str.ofString "together " ++ yesNo c.together, Str.ofString "doubles " ++ c.doubles]).length ≤ 8 := by rw [List.length_append]; show _ + 2 ≤ _; omega
      refine ⟨_, rfl, _, rfl, p, _, rfl, .inl ⟨_, Sum.inr "again", .inl (g2), rfl, (show valV ((kw10.map Sum.inr : List Key).zip (valsC c (.ref fp))) (Sum.inr "again") = some (.bl c.again) by kernel_rfl).symm⟩, _, rfl, _, _, rfl, rfl, (by rw [sizeLine_eq]; unfold numS at *; simp only [c0, d1, d2, d3, d4, d5, d6, d7, d8, d9, str_len]; omega), _, rfl, p, _, rfl, .inl ⟨_, Sum.inr "slot", .inl (g2), rfl, (show valV ((kw10.map Sum.inr : List Key).zip (valsC c (.ref fp))) (Sum.inr "slot") = some (.int c.slot) by kernel_rfl).symm⟩, _, rfl, log_le (slot_le okc).1 (slot_le okc).2, _, _, rfl, rfl, (by rw [sizeLine_eq]; unfold numS at *; simp only [c0, d1, d2, d3, d4, d5, d6, d7, d8, d9, str_len]; omega), by show 2 ≤ sizeLine; decide, fun a3_ ha3 => ?_⟩
      have D3 := hb2_
      refine ⟨b2, a3_, _, ([Str.ofString "again " ++ yesNo c.again, Str.ofString "slot " ++ numS c.slot] : List Str).map V.str, rfl, rfl, ((Ex.refl H3).more ha3) _ _ D3, upd_same, by rw [sizeLine_eq, List.length_map, List.length_map]; show _ + 2 ≤ _; omega, fun b3 hb3 => ?_⟩
      have nb3 : H3 b3 = none := ((Ex.refl H3).more ha3).none hb3
      generalize hh3 : upd (upd H3 a3_ _) b3 _ = H4
      have f3 : Ex H3 H4 := by rw [← hh3]; exact ((Ex.refl H3).more ha3).more hb3
      have hb3_ : H4 b3 = some (.lst (((((es.map fun e => kindLine e.2) ++ [(((Str.ofString "registers ") ++ numS c.wholes) ++ Str.ofString " ") ++ numS c.floats]) ++ [Str.ofString "together " ++ yesNo c.together, Str.ofString "doubles " ++ c.doubles]) ++ [Str.ofString "again " ++ yesNo c.again, Str.ofString "slot " ++ numS c.slot]).map V.str)) := by rw [← hh3, upd_same]; exact congrArg (fun l => some (HO.lst l)) (List.map_append (l₁ := (((es.map fun e => kindLine e.2) ++ [(((Str.ofString "registers ") ++ numS c.wholes) ++ Str.ofString " ") ++ numS c.floats]) ++ [Str.ofString "together " ++ yesNo c.together, Str.ofString "doubles " ++ c.doubles])) (l₂ := [Str.ofString "again " ++ yesNo c.again, Str.ofString "slot " ++ numS c.slot]) (f := V.str)).symm
      clear hh3
      have g3 := f3 _ _ g2
      have lL3 : ((((es.map fun e => kindLine e.2) ++ [(((Str.ofString "registers ") ++ numS c.wholes) ++ Str.ofString " ") ++ numS c.floats]) ++ [Str.ofString "together " ++ yesNo c.together, Str.ofString "doubles " ++ c.doubles]) ++ [Str.ofString "again " ++ yesNo c.again, Str.ofString "slot " ++ numS c.slot]).length ≤ 10 := by rw [List.length_append]; show _ + 2 ≤ _; omega
      refine ⟨_, rfl, _, rfl, p, _, rfl, .inl ⟨_, Sum.inr "natural", .inl (g3), rfl, (show valV ((kw10.map Sum.inr : List Key).zip (valsC c (.ref fp))) (Sum.inr "natural") = some (.bl c.natural) by kernel_rfl).symm⟩, _, rfl, _, _, rfl, rfl, (by rw [sizeLine_eq]; unfold numS at *; simp only [c0, d1, d2, d3, d4, d5, d6, d7, d8, d9, str_len]; omega), _, rfl, p, _, rfl, .inl ⟨_, Sum.inr "home", .inl (g3), rfl, (show valV ((kw10.map Sum.inr : List Key).zip (valsC c (.ref fp))) (Sum.inr "home") = some (.int c.home) by kernel_rfl).symm⟩, _, rfl, log_le (home_le okc).1 (home_le okc).2, _, _, rfl, rfl, (by rw [sizeLine_eq]; unfold numS at *; simp only [c0, d1, d2, d3, d4, d5, d6, d7, d8, d9, str_len]; omega), _, rfl, p, _, rfl, .inl ⟨_, Sum.inr "tail", .inl (g3), rfl, (show valV ((kw10.map Sum.inr : List Key).zip (valsC c (.ref fp))) (Sum.inr "tail") = some (.str c.tail) by kernel_rfl).symm⟩, _, _, rfl, rfl, (by rw [sizeLine_eq]; unfold numS at *; simp only [c0, d1, d2, d3, d4, d5, d6, d7, d8, d9, str_len]; omega), by show 3 ≤ sizeLine; decide, fun a4_ ha4 => ?_⟩
      have D4 := hb3_
      refine ⟨b3, a4_, _, ([Str.ofString "natural " ++ yesNo c.natural, Str.ofString "home " ++ numS c.home, Str.ofString "tail " ++ c.tail] : List Str).map V.str, rfl, rfl, ((Ex.refl H4).more ha4) _ _ D4, upd_same, by rw [sizeLine_eq, List.length_map, List.length_map]; show _ + 3 ≤ _; omega, fun b4 hb4 => ?_⟩
      have nb4 : H4 b4 = none := ((Ex.refl H4).more ha4).none hb4
      generalize hh4 : upd (upd H4 a4_ _) b4 _ = H5
      have f4 : Ex H4 H5 := by rw [← hh4]; exact ((Ex.refl H4).more ha4).more hb4
      have hb4_ : H5 b4 = some (.lst ((((((es.map fun e => kindLine e.2) ++ [(((Str.ofString "registers ") ++ numS c.wholes) ++ Str.ofString " ") ++ numS c.floats]) ++ [Str.ofString "together " ++ yesNo c.together, Str.ofString "doubles " ++ c.doubles]) ++ [Str.ofString "again " ++ yesNo c.again, Str.ofString "slot " ++ numS c.slot]) ++ [Str.ofString "natural " ++ yesNo c.natural, Str.ofString "home " ++ numS c.home, Str.ofString "tail " ++ c.tail]).map V.str)) := by rw [← hh4, upd_same]; exact congrArg (fun l => some (HO.lst l)) (List.map_append (l₁ := ((((es.map fun e => kindLine e.2) ++ [(((Str.ofString "registers ") ++ numS c.wholes) ++ Str.ofString " ") ++ numS c.floats]) ++ [Str.ofString "together " ++ yesNo c.together, Str.ofString "doubles " ++ c.doubles]) ++ [Str.ofString "again " ++ yesNo c.again, Str.ofString "slot " ++ numS c.slot])) (l₂ := [Str.ofString "natural " ++ yesNo c.natural, Str.ofString "home " ++ numS c.home, Str.ofString "tail " ++ c.tail]) (f := V.str)).symm
      clear hh4
      have g4 := f4 _ _ g3
      have lL4 : (((((es.map fun e => kindLine e.2) ++ [(((Str.ofString "registers ") ++ numS c.wholes) ++ Str.ofString " ") ++ numS c.floats]) ++ [Str.ofString "together " ++ yesNo c.together, Str.ofString "doubles " ++ c.doubles]) ++ [Str.ofString "again " ++ yesNo c.again, Str.ofString "slot " ++ numS c.slot]) ++ [Str.ofString "natural " ++ yesNo c.natural, Str.ofString "home " ++ numS c.home, Str.ofString "tail " ++ c.tail]).length ≤ 13 := by rw [List.length_append]; show _ + 3 ≤ _; omega
      have eHN := ((((eH.trans f1).trans f2).trans f3).trans f4)
      have bH : H b4 = none := ((((eH.trans f1).trans f2).trans f3)).none nb4
      have el : (((((es.map fun e => kindLine e.2) ++ [(((Str.ofString "registers ") ++ numS c.wholes) ++ Str.ofString " ") ++ numS c.floats]) ++ [Str.ofString "together " ++ yesNo c.together, Str.ofString "doubles " ++ c.doubles]) ++ [Str.ofString "again " ++ yesNo c.again, Str.ofString "slot " ++ numS c.slot]) ++ [Str.ofString "natural " ++ yesNo c.natural, Str.ofString "home " ++ numS c.home, Str.ofString "tail " ++ c.tail]) = (es.map (·.2)).map kindLine ++ optLines c := by
        rw [optLines_eq, List.map_map]
        simp only [List.append_assoc, List.cons_append, List.nil_append]
        rfl
      rw [el] at hb4_ lL4
      have hd5 := eHN _ _ hd
      have dp : d ≠ b4 := ne_of_none hd bH
      refine ⟨d, _, hd5, True.intro, fun od2 => ⟨_, rfl, d, od2, rfl, .inl ⟨_, upd_same, ?_⟩⟩⟩
      have base : ∀ a o, a ≠ b4 → upd H d (.frz od2 (.dK (keK es))) a = some o → upd H5 d (.frz od2 (.dK (keK es))) a = some o := fun a o _ h => by
        by_cases z : a = d
        · rw [z, upd_same] at h ⊢
          exact h
        · rw [upd_ne z] at h ⊢
          exact eHN _ _ h
      have lock : ∀ {a : Addr} {o : HO}, H a = some o → (∀ kvs, o ≠ .dK kvs) → upd H d (.frz od2 (.dK (keK es))) a = some o := fun {a o} h n => by
        rw [upd_ne (ne_of h hd (n _))]
        exact h
      have few' : (es.map (·.2)).length ≤ 5 := by rw [List.length_map]; exact few
      have pd : p ≠ d := by
        intro z
        rw [z, hd] at hpd
        injection hpd with hpd
        injection hpd with hpd
        have z1 := congrArg List.length hpd
        rw [lk] at z1
        have z2 : ((kw10.map Sum.inr : List Key).zip (valsC c (.ref fp))).length = 10 := rfl
        rw [z2] at z1
        omega
      have fd' : fp ≠ d ∨ entK ps = keK es := by
        by_cases z : fp = d
        · right
          rw [z, hd] at hfp
          injection hfp with hfp
          injection hfp with hfp
          exact hfp.symm
        · exact .inl z
      have hpL : upd H d (.frz od2 (.dK (keK es))) p = some (.dK ((kw10.map Sum.inr).zip (valsC c (.ref fp)))) := by
        rw [upd_ne pd]
        exact hpd
      have rfp : ∀ {Hc : Hp}, (∀ a o, a ≠ b4 → upd H d (.frz od2 (.dK (keK es))) a = some o → Hc a = some o) → Rd Hc fp (.dK (entK ps)) := fun {Hc} e => by
        by_cases z : fp = d
        · right
          rcases fd' with z2 | z2
          · exact absurd z z2
          · rw [z2, z]
            exact ⟨od2, e d _ dp upd_same⟩
        · left
          refine e fp _ (ne_of_none hfp bH) ?_
          rw [upd_ne z]
          exact hfp
      refine for_it (walk_keys (kvs := keK es)) (fun i σ Hc => (∀ a o, a ≠ b4 → upd H d (.frz od2 (.dK (keK es))) a = some o → Hc a = some o) ∧ Hc b4 = some (.lst (((es.map (·.2)).map kindLine ++ optLines c ++ fillLines c.fill ((es.map (·.2.name)).take i)).map V.str)) ∧ ∃ a3 a4 a5 a6, σ = [some (.ref d), some (.ref p), some (.ref b4), a3, a4, a5, a6])
        ⟨base, ?_, _, _, _, _, rfl⟩ (fun i σ Hc _ h => h.1 d _ dp upd_same) (fun i y σ Hc H2 hi hP hY => ?_) (fun σ Hc hP => ?_)
      · rw [upd_ne dp.symm, hb4_]
        show some (HO.lst _) = some (.lst ((_ ++ []).map V.str))
        rw [List.append_nil]
      · obtain ⟨ec, bc, a3, a4, a5, a6, rfl⟩ := hP
        obtain ⟨rfl, k, v, hk, rfl⟩ := hY
        obtain ⟨e, he, rfl⟩ : ∃ e, es[i]? = some e ∧ k = Sum.inr e.2.name := by
          unfold keK at hk
          rw [List.getElem?_map] at hk
          cases z : es[i]? with
          | none =>
            rw [z] at hk
            cases hk
          | some e =>
            rw [z] at hk
            exact ⟨e, rfl, (congrArg Prod.fst (Option.some.inj hk)).symm⟩
        have hm := List.mem_of_getElem? he
        have en1 : ps.map (·.1) = es.map (·.2.name) := by
          have z := congrArg (List.map (·.1)) hps
          rw [List.map_map, List.map_map] at z
          exact z
        obtain ⟨u, hu, hv, un⟩ := ent_val (es := ps) (n := e.2.name) (by rw [en1]; exact List.mem_map.mpr ⟨e, hm, rfl⟩)
        have uf : u.2.2 = c.fill e.2.name := by
          have z : (u.1, u.2.2) ∈ es.map fun e => (e.2.name, c.fill e.2.name) := by
            rw [← hps]
            exact List.mem_map.mpr ⟨u, hu, rfl⟩
          obtain ⟨e', _, ee⟩ := List.mem_map.mp z
          have z1 : e'.2.name = u.1 := congrArg Prod.fst ee
          have z2 : c.fill e'.2.name = u.2.2 := congrArg Prod.snd ee
          rw [← z2, z1, un]
        have hok : (c.fill e.2.name).Ok := fok e hm
        have hT : H2 u.2.1 = some (.tup (planF u.2.2)) := ec _ _ (ne_of_none (htp u hu) bH) (lock (htp u hu) (by intro _ z; cases z))
        have hp2 := ec p _ (ne_of_none hpd bH) hpL
        refine ⟨_, rfl, p, _, rfl, .inl ⟨_, Sum.inr "fills", .inl hp2, rfl, (show valV ((kw10.map Sum.inr : List Key).zip (valsC c (.ref fp))) (Sum.inr "fills") = some (.ref fp) by kernel_rfl).symm⟩, _, rfl, fp, _, rfl, .inl ⟨entK ps, Sum.inr e.2.name, rfp ec, rfl, hv.symm⟩, ?_⟩
        refine ⟨u.2.1, _, rfl, SqT.of hT, rfl, _, _, rfl, _, _, rfl, rfl, ?_⟩
        refine ⟨_, rfl, rfl, _, rfl, ?_⟩
        rw [eS]
        have hnm : (es.map (·.2.name))[i]? = some e.2.name := by
          rw [List.getElem?_map, he]
          rfl
        have et := take_get hnm
        have key : ∀ b : Bool, isTold (c.fill e.2.name) = b → fillLines c.fill ((es.map (·.2.name)).take (i + 1)) = fillLines c.fill ((es.map (·.2.name)).take i) ++ if b = true then [fillLine e.2.name (c.fill e.2.name)] else [] := fun b hb => by
          rw [← et, fillLines_snoc, hb]
        have ed0 : (!decide (u.2.2.word = FREE)) = isTold (c.fill e.2.name) := by
          rw [uf]
          unfold isTold
          rw [Bool.eq_iff_iff]
          simp
        have ed : (!decide (u.2.2.word = Str.ofString "free")) = isTold (c.fill e.2.name) := ed0
        rw [ed]
        refine iteB (fun hb => ?_) (fun hb => ⟨ec, ?_, _, _, _, _, rfl⟩)
        · rcases hok with ⟨z, _⟩ | ⟨hw, x, hx, x0, x1⟩
          · unfold isTold at hb
            exact absurd z (of_decide_eq_true hb)
          · have htop : topI u.2.2 = x := by
              unfold topI
              rw [uf, hx]
            have hwl : u.2.2.word.length ≤ 5 := by
              rw [uf]
              rcases hw with z | z <;> rw [z] <;> decide
            have hnl := (kind_le (ok e hm)).1
            have n1 := num_le (show 0 ≤ x by omega) x1
            have ll : ((((es.map (·.2)).map kindLine ++ optLines c ++ fillLines c.fill ((es.map (·.2.name)).take i)).map V.str)).length < sizeLine := by
              have z1 := fillLines_len c.fill ((es.map (·.2.name)).take i)
              rw [List.length_take, List.length_map] at z1
              rw [List.length_map, List.length_append, sizeLine_eq]
              omega
            refine ⟨_, rfl, .inl ⟨rfl, _, SqL.of bc⟩, _, rfl, _, _, rfl, rfl, (by rw [sizeLine_eq]; simp only [d10, d2, str_len]; omega), _, _, rfl, rfl, (by rw [sizeLine_eq]; simp only [d10, d2, str_len]; omega), _, rfl, _, _, rfl, rfl, (by rw [sizeLine_eq]; simp only [d10, d2, str_len]; omega), _, _, rfl, rfl, (by rw [sizeLine_eq]; simp only [d10, d2, str_len]; omega), _, rfl, _, rfl, by rw [htop]; exact log_le (by omega) x1, _, _, rfl, rfl, (by rw [htop, sizeLine_eq]; unfold numS at *; simp only [d10, d2, str_len]; omega), ?_⟩
            refine ⟨b4, _, _, rfl, rfl, bc, ll, fun a o n h => ?_, ?_, _, _, _, _, rfl⟩
            · rw [upd_ne n]
              exact ec a o n h
            · have ef : ((((Str.ofString "fill " ++ e.2.name) ++ Str.ofString " ") ++ u.2.2.word) ++ Str.ofString " ") ++ Str.ofString (toString (topI u.2.2)) = fillLine e.2.name (c.fill e.2.name) := by
                unfold fillLine
                rw [empty_app, uf, hx, ← uf, htop]
                rfl
              rw [ef, upd_same, key true hb, if_pos rfl, ← List.append_assoc]
              exact congrArg (fun l => some (HO.lst l)) (List.map_append (f := V.str) (l₂ := [fillLine e.2.name (c.fill e.2.name)])).symm
        · rw [key false hb, if_neg (by intro z; cases z), List.append_nil]
          exact bc
      · obtain ⟨ec, bc, a3, a4, a5, a6, rfl⟩ := hP
        have dc := ec d _ dp upd_same
        rw [lk, ← List.length_map (as := es) (fun e => e.2.name), List.take_length] at bc
        refine ⟨dc, _, rfl, q _ b4 (fun a o h => ?_) bH ?_⟩
        · by_cases z : a = d
          · rw [z] at h ⊢
            rw [upd_same, ← hd]
            exact h
          · rw [upd_ne z]
            refine ec a o (ne_of_none h bH) ?_
            rw [upd_ne z]
            exact h
        · rw [upd_ne dp.symm, bc]
          unfold textLines
          rw [List.map_map (l := es) (g := fun k : KindD => k.name), List.append_assoc]
          rfl
end
end U
/-! ## the law: _law_wrong -/
namespace U
open PySem PySem.Spec PyProof.Rows L2 StX TL
section
variable {W : Wd}
structure LwD where
  names : List Str
  step : Nat
  last : Int
def lw0 : LwD := ⟨[], 0, -1⟩
def lwKind (ws : List Str) (d : LwD) : LwD := ⟨d.names ++ [ws.getD 1 Str.empty], d.step, d.last⟩
def lwRegs (ws : List Str) (d : LwD) : Option LwD := match ws with
  | [a, b, c] => if a = Str.ofString "registers" ∧ countIn b 0 3 = true ∧ countIn c 0 3 = true then some { d with step := 1 } else none
  | _ => none
def lwOpt (ws : List Str) (d : LwD) : Option LwD := match ws, optTab[d.step - 1]? with
  | [a, b], some t => if a = t.1 ∧ b ∈ t.2 then some { d with step := d.step + 1 } else none
  | _, _ => none
def lwFill (ws : List Str) (d : LwD) : Option LwD := match ws with
  | [a, n, w, x] => if a = Str.ofString "fill" ∧ n ∈ d.names ∧ d.last < idxI d.names n ∧ (w = ZEROS ∨ w = SIGN) ∧ countIn x 3 128 = true then some { d with last := idxI d.names n } else none
  | _ => none
def lwStep (ws : List Str) (d : LwD) : Option LwD :=
  if d.step = 0 ∧ lawKind ws d.names = true then some (lwKind ws d)
  else if d.step = 0 ∧ d.names ≠ [] then lwRegs ws d
  else if 1 ≤ d.step ∧ d.step ≤ 7 then lwOpt ws d
  else if d.step = 8 then lwFill ws d
  else none
def lwRun : LwD → Nat → List (List Str) → Except Nat LwD
  | d, _, [] => .ok d
  | d, k, ws :: r => match lwStep ws d with
    | none => .error (k + 1)
    | some d' => lwRun d' (k + 1) r
def lawWrong (z : Str) : Nat := match lwRun lw0 0 ((linesOf z).dropLast.map wordsOf) with
  | .error n => n
  | .ok d => if (linesOf z).getLast? ≠ some Str.empty ∨ d.step < 8 then (linesOf z).length else 0
theorem lwRun_snoc : ∀ (l : List (List Str)) (d d' : LwD) (k : Nat) (r : List (List Str)), lwRun d k l = .ok d' → lwRun d k (l ++ r) = lwRun d' (k + l.length) r
  | [], d, d', k, r, h => by
    cases h
    rfl
  | ws :: l, d, d', k, r, h => by
    rw [List.cons_append]
    have h2 : (match lwStep ws d with
      | none => (.error (k + 1) : Except Nat LwD)
      | some d' => lwRun d' (k + 1) l) = .ok d' := h
    show (match lwStep ws d with
      | none => (.error (k + 1) : Except Nat LwD)
      | some d' => lwRun d' (k + 1) (l ++ r)) = _
    cases e : lwStep ws d with
    | none =>
      rw [e] at h2
      cases h2
    | some d2 =>
      rw [e] at h2
      have ih := lwRun_snoc l d2 d' (k + 1) r h2
      rw [List.length_cons, show k + (l.length + 1) = k + 1 + l.length by omega]
      exact ih
def WrAt (L : List Str) (z : Str) (q : Addr) (H3 : Hp) (i : Nat) (σ : L2.St) (Hc : Hp) : Prop := ∃ (d : LwD) (l : Addr) (a5 a6 a7 a8 : Option V), Ex H3 Hc ∧ lwRun lw0 0 ((L.take i).map wordsOf) = .ok d ∧ Hc l = some (.lst (d.names.map V.str)) ∧ (d.step ≤ 8 ∧ d.names.length ≤ 5) ∧
  σ = [some (.str z), some (.ref q), some (.ref l), some (.int d.step), some (.int d.last), a5, a6, a7, a8, none]
theorem wrong_tail {D : Ends} {σ : L2.St} {H : Hp} {fine : Bool} {k : Int} (h8 : σ[8]? = some (some (.bl fine))) (h5 : σ[5]? = some (some (.int k))) (ht : fine = true → D.nx σ H) (hf : fine = false → D.rt (.int (k + 1)) H) :
    tIfS (tNot (tB (tVar 8))) (tRet (tOp (rI0 fun i j => .int (i + j)) (tVar 5) (tC (.int 1)))) tNext D σ H := by
  refine ⟨_, h8, _, rfl, ?_⟩
  cases fine with
  | true => exact ht rfl
  | false => exact ⟨_, h5, _, _, rfl, rfl, hf rfl⟩
theorem lw_kind {ws : List Str} {d : LwD} (h0 : d.step = 0) (hk : lawKind ws d.names = true) : lwStep ws d = some (lwKind ws d) := by
  unfold lwStep
  rw [if_pos ⟨h0, hk⟩]
theorem lw_regs {ws : List Str} {d : LwD} (h0 : d.step = 0) (hk : lawKind ws d.names = false) (hn : d.names ≠ []) : lwStep ws d = lwRegs ws d := by
  unfold lwStep
  rw [if_neg (fun z => by rw [hk] at z; cases z.2), if_pos ⟨h0, hn⟩]
theorem lw_none0 {ws : List Str} {d : LwD} (h0 : d.step = 0) (hk : lawKind ws d.names = false) (hn : d.names = []) : lwStep ws d = none := by
  unfold lwStep
  rw [if_neg (fun z => by rw [hk] at z; cases z.2), if_neg (fun z => z.2 hn), if_neg (fun z => by omega), if_neg (by omega)]
theorem lw_opt {ws : List Str} {d : LwD} (h1 : 1 ≤ d.step) (h7 : d.step ≤ 7) : lwStep ws d = lwOpt ws d := by
  unfold lwStep
  rw [if_neg (fun z => by omega), if_neg (fun z => by omega), if_pos ⟨h1, h7⟩]
theorem lw_fill {ws : List Str} {d : LwD} (h8 : d.step = 8) : lwStep ws d = lwFill ws d := by
  unfold lwStep
  rw [if_neg (fun z => by omega), if_neg (fun z => by omega), if_neg (fun z => by omega), if_pos h8]
theorem law_kind_len {ws ns : List Str} (h : lawKind ws ns = true) : ns.length < 5 ∧ ∃ a b r, ws = a :: b :: r := by
  unfold lawKind at h
  split at h
  · obtain ⟨_, h2⟩ := He.ba h
    exact ⟨of_decide_eq_true (He.ba h2).1, _, _, _, rfl⟩
  · cases h
abbrev wrN : List Str := ["_law_page", "_law_rows", "_law_names", "_law_step", "_law_last", "_law_k", "_law_row", "_law_words", "_law_is_fine", "_law_word"]
theorem sc_law_wrong : FnScope wrN ["_law_page"] (defScope s__law_wrong) := ⟨rfl, rfl, rfl, by decide +kernel, rfl, by decide +kernel, by decide +kernel⟩
def sp_law_wrong : Sp := fun vs H Q _ => ∃ z : Str, vs = [.str z] ∧ z.length ≤ 900000 ∧ PyData.strOk z = true ∧ ∀ H', Ex H H' → Q (.int (lawWrong z : Nat)) H'
theorem ok_law_wrong (T : Tx W) : Fn W CX0 3 (ga W.K "_law_wrong") ["_law_page"] sp_law_wrong := by
  obtain ⟨fd, F⟩ := T.d__law_wrong
  refine ⟨⟨fd, ?_, F.bindsN fun _ _ _ _ _ _ us hl => match us, hl with | [_], _ => rfl⟩, F.kp⟩
  refine F.ok sc_law_wrong (fun vs H Q E h => ?_) (fun cdv A outer s H vs Q E hr h => ?_)
  · obtain ⟨z, rfl, _⟩ := h
    rfl
  · obtain ⟨z, rfl, hz, zok, q⟩ := h
    have nN := sc_law_wrong.nd
    refine ⟨_, PSs.nox (pss_cons (ps_set (i := 1) nN rfl (Or.inl rfl) (pe_bm PySem.F.plainAttrs_str PySem.F.slot_str_split PySem.F.type_str_split mt_split (pv 0) (pa_cons pe_str pa_nil)))
      (pss_cons (ps_par3 (i := 2) (j := 3) (l := 4) (by rfl) nN rfl rfl rfl (by decide) (by decide) (by decide) rfl rfl rfl (pa_cons (pe_lst pa_nil) (pa_cons pe_int (pa_cons (pe_op op_sub pe_int pe_int) pa_nil))) (by rfl))
      (pss_cons (ps_for PassesOwn.never rfl (pi_enum (by rfl) T.f_enumerate (pa_cons (pe_slice sl_list (pv 1) po_none (po_some (pe_un un_neg pe_int))) pa_nil)) (pg_tup rfl (pgs_cons (pg_name (i := 5) nN rfl (Or.inl rfl)) (pgs_cons (pg_name (i := 6) nN rfl (Or.inl rfl)) pgs_nil)))
        (pss_cons (ps_par (i := 7) (j := 8) (by rfl) nN rfl rfl (by decide) rfl rfl (pa_cons (pe_bm PySem.F.plainAttrs_str PySem.F.slot_str_split PySem.F.type_str_split mt_split (pv 6) (pa_cons pe_str pa_nil)) (pa_cons pe_bl pa_nil)) (by rfl))
        (pss_cons (ps_if (PW.pt (pw_and (pt_cmpR op_eq (pv 3) pe_int (nomark _)) (pw_and1 (pt_val (u_call (ok_law_is_kind T) T.g__law_is_kind hr (pa_cons (pv 7) (pa_cons (pv 2) pa_nil)))))))
            (pss_one (ps_par (i := 2) (j := 8) (by rfl) nN rfl rfl (by decide) rfl rfl (pa_cons (pe_op op_cat (pv 2) (pe_lst (pa_cons (pe_ix ix_list (pv 7) pe_int (fun _ _ => rfl)) pa_nil))) (pa_cons pe_bl pa_nil)) (by rfl)))
            (pss_one (ps_if (PW.pt (pw_and (pt_cmpR op_eq (pv 3) pe_int (nomark _)) (pw_and1 (pt_cmpR (op_ne_list0 hr.units0) (pv 2) (pe_lst pa_nil) (nomark _)))))
              (pss_cons (ps_par (i := 8) (j := 3) (by rfl) nN rfl rfl (by decide) rfl rfl (pa_cons (pe_and (pe_cmpR op_eq (pe_callB call_len_seq (by rfl) T.f_len (by decide +kernel) (pa_cons (pv 7) pa_nil)) pe_int (nomark _)) (pe_one (pe_cmpR op_eq (pe_ix ix_list (pv 7) pe_int (fun _ _ => rfl)) pe_str (nomark _)))) (pa_cons pe_int pa_nil)) (by rfl))
                (pss_one (ps_set (i := 8) nN rfl (Or.inl rfl) (pe_and (pv 8) (pe_one (pe_callB (cr_all rfl) (by rfl) T.f_all (by decide +kernel) (pa_cons (pe_lc (own := [("_law_word", 9)]) (g := gName 9) (tt := tYes) rfl nN (pi_list (pe_slice sl_list (pv 7) (po_some pe_int) po_none)) (blkOk_by (N := wrN) (sc := defScope s__law_wrong) (by decide +kernel))
                  (fun _ _ _ _ _ => pg_name (i := 9) nN rfl (Or.inl rfl)) (fun _ _ _ _ _ => pts_nil) (fun _ _ _ _ _ => u_call (ok_law_count T) T.g__law_count hr (pa_cons (pv 9) (pa_cons pe_int (pa_cons pe_int pa_nil))))) pa_nil)))))))
              (pss_one (ps_if (pt_chain op_le op_le pe_int (pv 3) pe_int)
                (pss_cons (ps_set (i := 8) nN rfl (Or.inl rfl) (pe_and (pe_cmpR op_eq (pe_callB call_len_seq (by rfl) T.f_len (by decide +kernel) (pa_cons (pv 7) pa_nil)) pe_int (nomark _)) (pe_one (pe_cmpR op_eq (pe_ix ix_list (pv 7) pe_int (fun _ _ => rfl)) (pe_ix ix_list (pe_ix ix_list (u_call0 (ok_law_options T) T.g__law_options hr) (pe_op op_sub (pv 3) pe_int) (fun _ _ => rfl)) pe_int (fun _ _ => rfl)) (nomark _)))))
                  (pss_one (ps_par (i := 8) (j := 3) (by rfl) nN rfl rfl (by decide) rfl rfl (pa_cons (pe_and (pv 8) (pe_one (pe_cmpR op_in_seq (pe_ix ix_list (pv 7) pe_int (fun _ _ => rfl)) (pe_ix ix_list (pe_ix ix_list (u_call0 (ok_law_options T) T.g__law_options hr) (pe_op op_sub (pv 3) pe_int) (fun _ _ => rfl)) pe_int (fun _ _ => rfl)) rfl))) (pa_cons (pe_op op_add (pv 3) pe_int) pa_nil)) (by rfl))))
                (pss_one (ps_if (PW.pt (pw_and (pt_cmpR op_eq (pv 3) pe_int (nomark _)) (pw_and (pt_cmpR op_eq (pe_callB call_len_seq (by rfl) T.f_len (by decide +kernel) (pa_cons (pv 7) pa_nil)) pe_int (nomark _)) (pw_and (pt_cmpR op_eq (pe_ix ix_list (pv 7) pe_int (fun _ _ => rfl)) pe_str (nomark _)) (pw_and1 (pt_cmpR op_in_seq (pe_ix ix_list (pv 7) pe_int (fun _ _ => rfl)) (pv 2) rfl))))))
                  (pss_cons (ps_set (i := 8) nN rfl (Or.inl rfl) (pe_and (pe_cmpR op_gt (pe_bm PySem.F.plainAttrs_list PySem.F.slot_list_index PySem.F.type_list_index mt_index (pv 2) (pa_cons (pe_ix ix_list (pv 7) pe_int (fun _ _ => rfl)) pa_nil)) (pv 4) (nomark _)) (pe_and (pe_cmpR op_in_seq (pe_ix ix_list (pv 7) pe_int (fun _ _ => rfl)) (pe_lst (pa_cons pe_str (pa_cons pe_str pa_nil))) rfl) (pe_one (u_call (ok_law_count T) T.g__law_count hr (pa_cons (pe_ix ix_list (pv 7) pe_int (fun _ _ => rfl)) (pa_cons pe_int (pa_cons pe_int pa_nil))))))))
                    (pss_one (ps_set (i := 4) nN rfl (Or.inl rfl) (pe_bm PySem.F.plainAttrs_list PySem.F.slot_list_index PySem.F.type_list_index mt_index (pv 2) (pa_cons (pe_ix ix_list (pv 7) pe_int (fun _ _ => rfl)) pa_nil)))))
                  pss_nil)))))))
        (pss_one (ps_if (pt_not (pt_val (pv 8))) (pss_one (ps_ret (pe_op op_add (pv 5) pe_int))) pss_nil)))))
      (pss_one (ps_ret (pe_ifExp (PW.pt (pw_or (pt_cmpR op_ne (pe_ix ix_list (pv 1) (pe_un un_neg pe_int) (fun _ _ => rfl)) pe_str (nomark _)) (pw_or1 (pt_cmpR op_lt (pv 3) pe_int (nomark _))))) (pe_callB call_len_seq (by rfl) T.f_len (by decide +kernel) (pa_cons (pv 1) pa_nil)) pe_int)))))), ?_⟩
    refine ⟨_, rfl, rfl, z, LF, rfl, rfl, rfl, by rw [sizeLine_eq]; omega, fun q1 hq => ?_⟩
    have e1 : Ex H (upd H q1 (.lst ((linesOf z).map V.str))) := (Ex.refl H).more hq
    have x1 := upd_same (H := H) (a := q1) (o := .lst ((linesOf z).map V.str))
    have lne : linesOf z ≠ [] := cut_ne sep_LF z
    have llen : ∀ l ∈ linesOf z, l.length ≤ 1000000 ∧ PyData.strOk l = true := fun l hl => ⟨by have := cut_len sep_LF z l hl; omega, cut_ok sep_LF z zok l hl⟩
    have lmany : (linesOf z).length ≤ 900001 := by
      have := cut_many sep_LF z
      show (Txt.split z LF).length ≤ _
      omega
    change tSeq _ _ _ _ (upd H q1 (.lst ((linesOf z).map V.str)))
    generalize upd H q1 (.lst ((linesOf z).map V.str)) = H1 at e1 x1 ⊢
    refine ⟨by show 0 ≤ sizeLine; decide, fun nl hnl => ⟨_, _, rfl, rfl, _, _, _, rfl, ?_⟩⟩
    have e2 : Ex H1 (upd H1 nl (.lst [])) := (Ex.refl _).more hnl
    have x2 := e2 _ _ x1
    have n2 := upd_same (H := H1) (a := nl) (o := .lst [])
    generalize upd H1 nl (.lst []) = H2 at e2 x2 n2 ⊢
    refine ⟨_, rfl, _, rfl, _, rfl, q1, _, rfl, SqL.of x2, fun r hr1 => ?_⟩
    rw [show (-(1 : Int)) = -1 from rfl, cut_last, ← List.map_dropLast]
    have e3 : Ex H2 (upd H2 r (.lst ((linesOf z).dropLast.map V.str))) := (Ex.refl _).more hr1
    have r3 := upd_same (H := H2) (a := r) (o := .lst ((linesOf z).dropLast.map V.str))
    have x3 := e3 _ _ x2
    have n3 := e3 _ _ n2
    have eH3 := (e1.trans e2).trans e3
    generalize upd H2 r (.lst ((linesOf z).dropLast.map V.str)) = H3 at e3 r3 x3 n3 eH3 ⊢
    generalize hL : (linesOf z).dropLast = L at *
    have lL : L.length ≤ 900001 := by
      rw [← hL, List.length_dropLast]
      omega
    refine ⟨r, _, rfl, SqL.of r3, for_it (walk_enum (xs := L.map V.str)) (fun i σ Hc => WrAt L z q1 H3 i σ Hc) ⟨lw0, nl, none, none, none, none, Ex.refl H3, rfl, n3, ⟨by decide, by decide⟩, rfl⟩ (fun i σ Hc _ h => ?_) (fun i y σ Hc Hc2 hi hP hY => ?_) (fun σ Hc hP => ?_)⟩
    · obtain ⟨_, _, _, _, _, _, ec, _⟩ := h
      exact SqL.of (ec _ _ r3)
    · obtain ⟨d, l, a5, a6, a7, a8, ec, hrun, hl, ⟨hs8, hn5⟩, rfl⟩ := hP
      obtain ⟨TT, a, b, rfl, hT, rfl, ha, hb⟩ := hY
      obtain rfl := Option.some.inj ha
      obtain ⟨row, hrow, rfl⟩ : ∃ l, L[i]? = some l ∧ b = .str l := by
        replace hb : (L.map V.str)[i]? = some b := hb
        rw [List.getElem?_map] at hb
        cases e : L[i]? with
        | none =>
          rw [e] at hb
          cases hb
        | some l =>
          rw [e] at hb
          exact ⟨l, rfl, (Option.some.inj hb).symm⟩
      have lm : row ∈ linesOf z := by
        have := List.mem_of_getElem? hrow
        rw [← hL] at this
        exact (List.dropLast_sublist _).subset this
      have et := take_get hrow
      have hil : i < L.length := by
        rw [List.length_map] at hi
        exact hi
      have lti : ((L.take i).map wordsOf).length = i := by
        rw [List.length_map, List.length_take]
        omega
      have bad : ∀ H', Ex H3 H' → lwStep (wordsOf row) d = none → Q (.int ((i : Int) + 1)) H' := fun H' e hn => by
        have hw : lawWrong z = i + 1 := by
          unfold lawWrong
          have hsp : (linesOf z).dropLast = L.take i ++ row :: L.drop (i + 1) := by
            rw [hL]
            have z1 := List.take_append_drop i L
            rw [List.drop_eq_getElem_cons hil] at z1
            have z2 : L[i] = row := by
              rw [List.getElem?_eq_getElem hil] at hrow
              exact Option.some.inj hrow
            rw [z2] at z1
            exact z1.symm
          rw [hsp, List.map_append, lwRun_snoc _ _ _ _ _ hrun, lti, List.map_cons]
          show (match (match lwStep (wordsOf row) d with
            | none => (.error (0 + i + 1) : Except Nat LwD)
            | some d' => lwRun d' (0 + i + 1) ((L.drop (i + 1)).map wordsOf)) with
            | .error n => n
            | .ok d => if (linesOf z).getLast? ≠ some Str.empty ∨ d.step < 8 then (linesOf z).length else 0) = _
          rw [hn, Nat.zero_add]
        have := q H' (eH3.trans e)
        rw [hw] at this
        exact this
      have good : ∀ (H' : Hp) (d2 : LwD) (l2 : Addr) (b5 b6 b7 b8 : Option V), Ex H3 H' → lwStep (wordsOf row) d = some d2 → H' l2 = some (.lst (d2.names.map V.str)) → d2.step ≤ 8 → d2.names.length ≤ 5 → WrAt L z q1 H3 (i + 1) [some (.str z), some (.ref q1), some (.ref l2), some (.int d2.step), some (.int d2.last), b5, b6, b7, b8, none] H' := fun H' d2 l2 b5 b6 b7 b8 e hs h2 g1 g2 => by
        refine ⟨d2, l2, b5, b6, b7, b8, e, ?_, h2, ⟨g1, g2⟩, rfl⟩
        rw [← et, List.map_append, lwRun_snoc _ _ _ _ _ hrun]
        show (match lwStep (wordsOf row) d with
          | none => (.error _ : Except Nat LwD)
          | some d' => lwRun d' _ []) = _
        rw [hs]
        rfl
      refine ⟨TT, _, rfl, SqT.of upd_same, rfl, _, _, rfl, _, _, rfl, rfl, ?_⟩
      have eT : Ex Hc (upd Hc TT (.tup [V.int (i : Nat), V.str row])) := (Ex.refl Hc).more hT
      generalize upd Hc TT (.tup [V.int (i : Nat), V.str row]) = Ht at eT ⊢
      have lrow := (llen row lm).1
      refine ⟨_, rfl, rfl, row, SP, rfl, rfl, rfl, by rw [sizeLine_eq]; omega, fun wq hwq => ⟨_, _, rfl, ?_⟩⟩
      have eW : Ex Ht (upd Ht wq (.lst ((wordsOf row).map V.str))) := (Ex.refl Ht).more hwq
      have hw0 := upd_same (H := Ht) (a := wq) (o := .lst ((wordsOf row).map V.str))
      change tSeq _ _ _ _ (upd Ht wq (.lst ((wordsOf row).map V.str)))
      have wlen : ∀ w ∈ wordsOf row, w.length ≤ 16777216 := fun w h => by have := cut_len sep_SP row w h; omega
      have wne : wordsOf row ≠ [] := cut_ne sep_SP row
      generalize upd Ht wq (.lst ((wordsOf row).map V.str)) = Hw at eW hw0 ⊢
      generalize wordsOf row = ws at *
      have eCW := (ec.trans eT).trans eW
      have hlw := eW _ _ (eT _ _ hl)
      have tail : ∀ (D : Ends) (fine : Bool) (l2 : Addr) (s2 t2 : Int) (H' : Hp), (∀ σ H, WrAt L z q1 H3 (i + 1) σ H → D.nx σ H) → (∀ v H, Q v H → D.rt v H) → Ex Hw H' → (fine = true → ∃ d2, lwStep ws d = some d2 ∧ H' l2 = some (.lst (d2.names.map V.str)) ∧ s2 = d2.step ∧ t2 = d2.last ∧ d2.step ≤ 8 ∧ d2.names.length ≤ 5) → (fine = false → lwStep ws d = none) →
          tIfS (tNot (tB (tVar 8))) (tRet (tOp (rI0 fun i j => .int (i + j)) (tVar 5) (tC (.int 1)))) tNext D [some (.str z), some (.ref q1), some (.ref l2), some (.int s2), some (.int t2), some (.int (i : Nat)), some (.str row), some (.ref wq), some (.bl fine), none] H' := fun D fine l2 s2 t2 H' hD1 hD2 e h1 h2 => by
        refine wrong_tail rfl rfl (fun hf => ?_) (fun hf => hD2 _ _ (bad H' (eCW.trans e) (h2 hf)))
        obtain ⟨d2, g1, g2, rfl, rfl, g3, g4⟩ := h1 hf
        exact hD1 _ _ (good H' d2 l2 _ _ _ _ (eCW.trans e) g1 g2 g3 g4)
      refine ⟨_, rfl, rfl, _, rfl, ?_⟩
      rw [eI]
      have dec0 : decide ((d.step : Int) = 0) = decide (d.step = 0) := by
        rw [Bool.eq_iff_iff, decide_eq_true_iff, decide_eq_true_iff]
        omega
      rw [dec0]
      by_cases h0 : d.step = 0
      · rw [decide_eq_true h0]
        refine ⟨_, rfl, _, rfl, wq, l, ws, d.names, rfl, hw0, hlw, wlen, fun H5 e5 => ⟨_, rfl, ?_⟩⟩
        have hw5 := e5 _ _ hw0
        have hl5 := e5 _ _ hlw
        refine iteB (fun hk => ?_) (fun hk => ?_)
        · obtain ⟨h5, wa, nm, wr, rfl⟩ := law_kind_len hk
          refine ⟨_, rfl, _, rfl, wq, _, _, V.str nm, rfl, rfl, SqL.of hw5, atI_nat (xs := (wa :: nm :: wr : List Str).map V.str) (j := 1) rfl, by show 1 ≤ sizeLine; decide, fun l2 hl2 => ?_⟩
          have e6 : Ex H5 (upd H5 l2 (.lst [V.str nm])) := (Ex.refl H5).more hl2
          refine ⟨l, l2, _, _, rfl, rfl, e6 _ _ hl5, upd_same, by rw [List.length_map, sizeLine_eq]; show _ + 1 ≤ _; omega, fun l3 hl3 => ⟨_, _, rfl, ?_⟩⟩
          refine tail _ true l3 _ _ _ (fun _ _ h => h) (fun _ _ h => h) ((e5.trans e6).more hl3) (fun _ => ⟨lwKind (wa :: nm :: wr) d, lw_kind h0 hk, ?_, rfl, rfl, hs8, ?_⟩) (fun h => by cases h)
          · rw [upd_same]
            exact congrArg (fun l => some (HO.lst l)) (List.map_append (f := V.str) (l₁ := d.names) (l₂ := [nm])).symm
          · show (d.names ++ [nm]).length ≤ 5
            rw [List.length_append]
            show d.names.length + 1 ≤ 5
            omega
        · refine ⟨_, rfl, rfl, _, rfl, ?_⟩
          rw [eI, dec0, decide_eq_true h0]
          refine ⟨_, rfl, by show 0 ≤ sizeLine; decide, fun l0 hl0 => ?_⟩
          have e6 : Ex H5 (upd H5 l0 (.lst [])) := (Ex.refl H5).more hl0
          refine ⟨l, l0, _, rfl, rfl, SqL.of (e6 _ _ hl5), SqL.of upd_same, _, rfl, ?_⟩
          have e56 := e5.trans e6
          have hw6 := e56 _ _ hw0
          have hl6 := e56 _ _ hlw
          generalize upd H5 l0 (.lst []) = H6 at e56 hw6 hl6 ⊢
          refine iteB (c := !_) (fun hn => ?_) (fun hn => ?_)
          · have hne : d.names ≠ [] := fun z => by
              rw [z] at hn
              cases hn
            have st := lw_regs h0 hk hne
            refine ⟨_, rfl, wq, _, rfl, .inl (SqL.of hw6), rfl, _, rfl, ?_⟩
            refine iteB (fun z1 => ?_) (fun z1 => ?_)
            · obtain ⟨x, y, w, rfl⟩ : ∃ x y w, ws = [x, y, w] := by
                rw [eI] at z1
                have h3 := of_decide_eq_true z1
                rw [List.length_map] at h3
                have h4 : ws.length = 3 := by omega
                match ws, h4 with
                | [x, y, w], _ => exact ⟨x, y, w, rfl⟩
              refine ⟨_, rfl, wq, _, _, V.str x, rfl, rfl, SqL.of hw6, rfl, rfl, ⟨_, _, rfl, ?_⟩⟩
              refine ⟨_, rfl, _, rfl, ?_⟩
              rw [eS]
              refine iteB (fun z2 => ?_) (fun z2 => ?_)
              · refine ⟨_, rfl, _, rfl, wq, _, rfl, SqL.of hw6, fun sq hsq => ⟨sq, rfl, ⟨_, SqL.of upd_same⟩, fun Dd hDd => ?_⟩⟩
                have exq : cutV ([x, y, w].map V.str) (some 1) none = [V.str y, .str w] := rfl
                have e7 : Ex H6 (upd H6 sq (.lst (cutV ([x, y, w].map V.str) (some 1) none))) := (Ex.refl H6).more hsq
                rw [exq] at hDd e7 ⊢
                refine lc_map (S := []) (B := upd H6 sq (.lst [V.str y, .str w])) (walk_list (xs := [V.str y, .str w])) [V.bl (countIn y 0 3), .bl (countIn w 0 3)] rfl (by show 2 ≤ 16777216; decide) (Ex.refl _) hDd (fun _ _ _ => True) True.intro (fun i B' H' hi at_ _ => SqL.of (at_.st.bh sq _ (at_.st.bb sq _ upd_same))) (fun j u v B' H' H'' R R' hi hy at_ _ hx rr => ?_) (fun B' H' at_ _ => ?_)
                · obtain ⟨rfl, hx⟩ := hx
                  obtain ⟨uw, rfl, rfl⟩ : ∃ uw : Str, u = .str uw ∧ v = .bl (countIn uw 0 3) := by
                    match j, hi with
                    | 0, _ => exact ⟨y, (Option.some.inj hx).symm, (Option.some.inj hy).symm⟩
                    | 1, _ => exact ⟨w, (Option.some.inj hx).symm, (Option.some.inj hy).symm⟩
                  refine ⟨rfl, _, rfl, uw, 0, 3, rfl, by decide, by decide, by decide, fun H4 e4 => rr B' H4 ⟨?_, e4 Dd _ at_.at_⟩ fun _ => True.intro⟩
                  exact ⟨at_.st.bb, at_.st.bh.trans e4, fun a o n h => e4 a o (at_.st.hh a o n h), at_.st.nb⟩
                · have e8 : Ex H6 H' := e7.trans (at_.st.bb.trans at_.st.bh)
                  refine ⟨Dd, [countIn y 0 3, countIn w 0 3], rfl, SqL.of at_.at_, ?_⟩
                  have ex : x = Str.ofString "registers" := of_decide_eq_true z2
                  refine tail _ _ l _ _ H' (fun _ _ h => h) (fun _ _ h => h) (e56.trans e8) (fun hf => ⟨{ d with step := 1 }, ?_, e8 _ _ hl6, rfl, rfl, by show 1 ≤ 8; decide, hn5⟩) (fun hf => ?_)
                  · have hf2 : (countIn y 0 3 && (countIn w 0 3 && true)) = true := hf
                    obtain ⟨c1, c2⟩ := He.ba hf2
                    rw [Bool.and_true] at c2
                    rw [st]
                    exact if_pos ⟨ex, c1, c2⟩
                  · have hf2 : (countIn y 0 3 && (countIn w 0 3 && true)) = false := hf
                    rw [st]
                    refine if_neg ?_
                    rintro ⟨_, c1, c2⟩
                    rw [c1, c2] at hf2
                    cases hf2
              · refine tail _ false l _ _ H6 (fun _ _ h => h) (fun _ _ h => h) e56 (fun h => by cases h) (fun _ => ?_)
                rw [st]
                refine if_neg ?_
                rintro ⟨c1, _⟩
                exact of_decide_eq_false z2 c1
            · refine ⟨_, _, rfl, ?_⟩
              refine ⟨_, rfl, _, rfl, ?_⟩
              refine tail _ false l _ _ H6 (fun _ _ h => h) (fun _ _ h => h) e56 (fun h => by cases h) (fun _ => ?_)
              rw [st]
              unfold lwRegs
              split
              · rw [eI] at z1
                exact absurd rfl (of_decide_eq_false z1)
              · rfl
          · have hne : d.names = [] := by
              have z3 := nf hn
              have z4 : d.names.map V.str = [] := List.isEmpty_iff.mp z3
              exact List.map_eq_nil_iff.mp z4
            refine ⟨_, rfl, _, _, rfl, rfl, _, rfl, ?_⟩
            refine iteB (fun z4 => absurd (of_decide_eq_true z4) (by omega)) (fun _ => ⟨_, rfl, ?_⟩)
            refine ⟨_, rfl, rfl, _, rfl, ?_⟩
            rw [eI]
            refine iteB (fun z5 => absurd (of_decide_eq_true z5) (by omega)) (fun _ => ?_)
            exact tail _ false l _ _ H6 (fun _ _ h => h) (fun _ _ h => h) e56 (fun h => by cases h) (fun _ => lw_none0 h0 hk hne)
      · rw [decide_eq_false h0]
        refine ⟨_, rfl, rfl, _, rfl, ?_⟩
        rw [eI, dec0, decide_eq_false h0]
        refine ⟨_, rfl, _, _, rfl, rfl, _, rfl, ?_⟩
        refine iteB (fun _ => ?_) (fun z4 => absurd (of_decide_eq_false z4) (by omega))
        refine ⟨_, _, rfl, rfl, _, rfl, ?_⟩
        refine iteB (fun z5 => ?_) (fun z5 => ?_)
        · have h7 : d.step ≤ 7 := by
            have := of_decide_eq_true z5
            omega
          have st := lw_opt (ws := ws) (d := d) (by omega) h7
          obtain ⟨t, ht⟩ : ∃ t, optTab[d.step - 1]? = some t := by
            have : d.step - 1 < optTab.length := by show d.step - 1 < 7; omega
            exact ⟨_, List.getElem?_eq_getElem this⟩
          have ixs : ((d.step : Nat) : Int) - 1 = ((d.step - 1 : Nat) : Int) := by omega
          have opt : ∀ {Hx : Hp} {ol : Addr}, OptsAt Hx ol → ∃ (rs : List Addr) (ra wa : Addr), Hx ol = some (.lst (rs.map V.ref)) ∧ atI (rs.map V.ref) (((d.step : Nat) : Int) - 1) = some (V.ref ra) ∧ Hx ra = some (.lst [.str t.1, .ref wa]) ∧ Hx wa = some (.lst (t.2.map V.str)) := fun {Hx ol} h => by
            obtain ⟨rs, h1, h2⟩ := h
            obtain ⟨ra, hra⟩ : ∃ ra, rs[d.step - 1]? = some ra := by
              have : d.step - 1 < rs.length := by rw [h2.length]; show d.step - 1 < 7; omega
              exact ⟨_, List.getElem?_eq_getElem this⟩
            obtain ⟨t', ht', wa, h3, h4⟩ := paired_get h2 hra
            obtain rfl : t = t' := Option.some.inj (ht.symm.trans ht')
            refine ⟨rs, ra, wa, h1, ?_, h3, h4⟩
            rw [ixs]
            refine atI_nat ?_
            rw [List.getElem?_map, hra]
            rfl
          -- the second statement, behind is_fine
          have two : ∀ (D : Ends) (fine : Bool) (H6 : Hp), (∀ σ H, WrAt L z q1 H3 (i + 1) σ H → D.nx σ H) → (∀ v H, Q v H → D.rt v H) → Ex Hw H6 → (fine = false → lwStep ws d = none) → (fine = true → ∃ b, ws = [t.1, b]) →
              tPar 8 3 (tCons (tAndV (tVar 8) (tOp (rIn W.K false) (tOp (rIxL W.K) (tVar 7) (tC (.int 1))) (tOp (rIxL W.K) (tOp (rIxL W.K) (tCall sp_law_options [] E0 tNil) (tOp (rI0 fun i j => .int (i - j)) (tVar 3) (tC (.int 1)))) (tC (.int 1))))) (tCons (tOp (rI0 fun i j => .int (i + j)) (tVar 3) (tC (.int 1))) tNil))
                { D with nx := tIfS (tNot (tB (tVar 8))) (tRet (tOp (rI0 fun i j => .int (i + j)) (tVar 5) (tC (.int 1)))) tNext D } [some (.str z), some (.ref q1), some (.ref l), some (.int d.step), some (.int d.last), some (.int (i : Nat)), some (.str row), some (.ref wq), some (.bl fine), none] H6 := fun D fine H6 hD1 hD2 e6 hf ht' => by
            refine ⟨_, rfl, _, rfl, ?_⟩
            cases fine with
            | false =>
              refine ⟨_, rfl, _, _, rfl, rfl, _, _, rfl, ?_⟩
              exact tail D false l _ _ H6 hD1 hD2 e6 (fun h => by cases h) (fun _ => hf rfl)
            | true =>
              obtain ⟨b, rfl⟩ := ht' rfl
              refine ⟨_, rfl, wq, _, _, V.str b, rfl, rfl, SqL.of (e6 _ _ hw0), rfl, rfl, fun H7 ol e7 hO => ?_⟩
              obtain ⟨rs, ra, wa, o1, o2, o3, o4⟩ := opt hO
              refine ⟨_, rfl, _, _, rfl, rfl, ol, _, _, V.ref ra, rfl, rfl, SqL.of o1, o2, ra, _, _, V.ref wa, rfl, rfl, SqL.of o3, rfl, wa, _, rfl, .inl (SqL.of o4), rfl, flat_strs _, ?_⟩
              have e67 := e6.trans e7
              refine ⟨_, rfl, _, _, rfl, rfl, _, _, rfl, ?_⟩
              have hbase : lwStep [t.1, b] d = if t.1 = t.1 ∧ b ∈ t.2 then some { d with step := d.step + 1 } else none := by
                rw [st]
                unfold lwOpt
                rw [ht]
              refine tail D _ l _ _ H7 hD1 hD2 e67 (fun hb => ⟨{ d with step := d.step + 1 }, ?_, e67 _ _ hlw, ?_, rfl, ?_, hn5⟩) (fun hb => ?_)
              · have hb2 : inV (.str b) (t.2.map V.str) = true := hb
                rw [inV_strs] at hb2
                rw [hbase, if_pos ⟨rfl, of_decide_eq_true hb2⟩]
              · show ((d.step : Nat) : Int) + 1 = ((d.step + 1 : Nat) : Int)
                omega
              · show d.step + 1 ≤ 8
                omega
              · have hb2 : inV (.str b) (t.2.map V.str) = false := hb
                rw [inV_strs] at hb2
                rw [hbase, if_neg (fun h => of_decide_eq_false hb2 h.2)]
          refine ⟨_, rfl, wq, _, rfl, .inl (SqL.of hw0), rfl, _, rfl, ?_⟩
          refine iteB (fun z1 => ?_) (fun z1 => ?_)
          · obtain ⟨x, y, rfl⟩ : ∃ x y, ws = [x, y] := by
              rw [eI] at z1
              have h3 := of_decide_eq_true z1
              rw [List.length_map] at h3
              have h4 : ws.length = 2 := by omega
              match ws, h4 with
              | [x, y], _ => exact ⟨x, y, rfl⟩
            refine ⟨_, rfl, wq, _, _, V.str x, rfl, rfl, SqL.of hw0, rfl, rfl, fun H7 ol e7 hO => ?_⟩
            obtain ⟨rs, ra, wa, o1, o2, o3, o4⟩ := opt hO
            refine ⟨_, rfl, _, _, rfl, rfl, ol, _, _, V.ref ra, rfl, rfl, SqL.of o1, o2, ra, _, _, V.str t.1, rfl, rfl, SqL.of o3, rfl, rfl, ?_⟩
            refine two _ _ H7 (fun _ _ h => h) (fun _ _ h => h) e7 (fun hf => ?_) (fun hf => ?_)
            · rw [eS] at hf
              rw [st]
              unfold lwOpt
              rw [ht]
              exact if_neg (fun h => of_decide_eq_false hf h.1)
            · rw [eS] at hf
              exact ⟨y, by rw [of_decide_eq_true hf]⟩
          · refine two _ false Hw (fun _ _ h => h) (fun _ _ h => h) (Ex.refl Hw) (fun _ => ?_) (fun h => by cases h)
            rw [st]
            unfold lwOpt
            split
            · rw [eI] at z1
              exact absurd rfl (of_decide_eq_false z1)
            · rfl
        · have h8 : d.step = 8 := by
            have := of_decide_eq_false z5
            omega
          have st := lw_fill (ws := ws) (d := d) h8
          have none_of : (∀ a n w x, ws = [a, n, w, x] → ¬ (a = Str.ofString "fill" ∧ n ∈ d.names)) → lwStep ws d = none := fun h => by
            rw [st]
            unfold lwFill
            split
            · rename_i a n w x
              exact if_neg (fun g => h a n w x rfl ⟨g.1, g.2.1⟩)
            · rfl
          refine ⟨_, rfl, rfl, _, rfl, ?_⟩
          refine iteB (fun _ => ?_) (fun z6 => absurd (of_decide_eq_false z6) (by rw [h8]; exact fun h => h rfl))
          refine ⟨_, rfl, wq, _, rfl, .inl (SqL.of hw0), rfl, _, rfl, ?_⟩
          refine iteB (fun z1 => ?_) (fun z1 => ?_)
          · obtain ⟨wa, nm, w, x, rfl⟩ : ∃ a b c e, ws = [a, b, c, e] := by
              rw [eI] at z1
              have h3 := of_decide_eq_true z1
              rw [List.length_map] at h3
              have h4 : ws.length = 4 := by omega
              match ws, h4 with
              | [a, b, c, e], _ => exact ⟨a, b, c, e, rfl⟩
            refine ⟨_, rfl, wq, _, _, V.str wa, rfl, rfl, SqL.of hw0, rfl, rfl, _, rfl, ?_⟩
            rw [eS]
            refine iteB (fun z2 => ?_) (fun z2 => ?_)
            · have ea := of_decide_eq_true z2
              refine ⟨_, rfl, wq, _, _, V.str nm, rfl, rfl, SqL.of hw0, rfl, _, rfl, l, _, rfl, .inl (SqL.of hlw), rfl, flat_strs _, _, rfl, ?_⟩
              show if inV (.str nm) (d.names.map V.str) = true then _ else _
              rw [inV_strs]
              refine iteB (fun z3 => ?_) (fun z3 => ?_)
              · have hin := of_decide_eq_true z3
                obtain ⟨i1, i2, i3⟩ := idx_facts hin
                have hj : (d.names.map V.str)[d.names.idxOf nm]? = some (V.str nm) := by
                  rw [List.getElem?_map, i1]
                  rfl
                have hbef : ∀ (m : Nat) (z' : V), m < d.names.idxOf nm → (d.names.map V.str)[m]? = some z' → eqV z' (.str nm) = false := fun m z' hm hz' => by
                  rw [List.getElem?_map] at hz'
                  cases e : d.names[m]? with
                  | none =>
                    rw [e] at hz'
                    cases hz'
                  | some y =>
                    rw [e] at hz'
                    obtain rfl : V.str y = z' := Option.some.inj hz'
                    rw [eqV_str]
                    exact decide_eq_false (i3 m y hm e)
                have hself : eqV (.str nm) (.str nm) = true := by rw [eqV_str, decide_eq_true rfl]
                have base : lwStep [wa, nm, w, x] d = if d.last < idxI d.names nm ∧ (w = ZEROS ∨ w = SIGN) ∧ countIn x 3 128 = true then some { d with last := idxI d.names nm } else none := by
                  rw [st]
                  unfold lwFill
                  dsimp only
                  by_cases h : d.last < idxI d.names nm ∧ (w = ZEROS ∨ w = SIGN) ∧ countIn x 3 128 = true
                  · rw [if_pos h, if_pos ⟨ea, hin, h⟩]
                  · rw [if_neg h, if_neg (fun g => h g.2.2)]
                -- last = names.index(words[1])
                have two : ∀ (D : Ends) (fine : Bool) (H6 : Hp), (∀ σ H, WrAt L z q1 H3 (i + 1) σ H → D.nx σ H) → (∀ v H, Q v H → D.rt v H) → Ex Hw H6 → (fine = false → lwStep [wa, nm, w, x] d = none) → (fine = true → lwStep [wa, nm, w, x] d = some { d with last := idxI d.names nm }) →
                    tAsg (tBM W.K "list" (rIndex W.K) (tVar 2) (tCons (tOp (rIxL W.K) (tVar 7) (tC (.int 1))) tNil)) (gName 4)
                      { D with nx := tIfS (tNot (tB (tVar 8))) (tRet (tOp (rI0 fun i j => .int (i + j)) (tVar 5) (tC (.int 1)))) tNext D } [some (.str z), some (.ref q1), some (.ref l), some (.int d.step), some (.int d.last), some (.int (i : Nat)), some (.str row), some (.ref wq), some (.bl fine), none] H6 := fun D fine H6 hD1 hD2 e6 hf ht => by
                  refine ⟨_, rfl, .inl ⟨rfl, _, SqL.of (e6 _ _ hlw)⟩, _, rfl, wq, _, _, V.str nm, rfl, rfl, SqL.of (e6 _ _ hw0), rfl, l, _, V.str nm, d.names.idxOf nm, V.str nm, rfl, rfl, SqL.of (e6 _ _ hlw), rfl, flat_strs _, hj, hself, hbef, ?_⟩
                  exact tail D fine l _ (d.names.idxOf nm : Nat) H6 hD1 hD2 e6 (fun h => ⟨_, ht h, e6 _ _ hlw, rfl, rfl, hs8, hn5⟩) hf
                refine ⟨_, rfl, .inl ⟨rfl, _, SqL.of hlw⟩, _, rfl, wq, _, _, V.str nm, rfl, rfl, SqL.of hw0, rfl, l, _, V.str nm, d.names.idxOf nm, V.str nm, rfl, rfl, SqL.of hlw, rfl, flat_strs _, hj, hself, hbef, ?_⟩
                refine ⟨_, rfl, _, _, rfl, rfl, _, rfl, ?_⟩
                refine iteB (fun z7 => ?_) (fun z7 => ?_)
                · have hlt : d.last < idxI d.names nm := of_decide_eq_true z7
                  refine ⟨_, rfl, wq, _, _, V.str w, rfl, rfl, SqL.of hw0, rfl, by show 2 ≤ sizeLine; decide, fun l4 hl4 => ?_⟩
                  have e4 : Ex Hw (upd Hw l4 (.lst [V.str ZEROS, .str SIGN])) := (Ex.refl Hw).more hl4
                  refine ⟨l4, _, rfl, .inl (SqL.of upd_same), rfl, rfl, ?_⟩
                  show ∃ c, V.bl (inV (.str w) ([ZEROS, SIGN].map V.str)) = .bl c ∧ _
                  rw [inV_strs]
                  refine ⟨_, rfl, ?_⟩
                  change if decide (w ∈ [ZEROS, SIGN]) = true then _ else _
                  have hw4 : upd Hw l4 (.lst [V.str ZEROS, .str SIGN]) wq = _ := e4 _ _ hw0
                  refine iteB (fun z8 => ?_) (fun z8 => ?_)
                  · have hwd : w = ZEROS ∨ w = SIGN := by simpa using of_decide_eq_true z8
                    refine ⟨_, rfl, wq, _, _, V.str x, rfl, rfl, SqL.of hw4, rfl, x, 3, 128, rfl, by decide, by decide, by decide, fun H6 e6 => ?_⟩
                    refine two _ _ H6 (fun _ _ h => h) (fun _ _ h => h) (e4.trans e6) (fun hf => ?_) (fun hf => ?_)
                    · rw [base, if_neg (fun h => by rw [h.2.2] at hf; cases hf)]
                    · rw [base, if_pos ⟨hlt, hwd, hf⟩]
                  · refine two _ false _ (fun _ _ h => h) (fun _ _ h => h) e4 (fun _ => ?_) (fun h => by cases h)
                    rw [base, if_neg]
                    rintro ⟨_, h, _⟩
                    exact of_decide_eq_false z8 (by simpa using h)
                · refine two _ false Hw (fun _ _ h => h) (fun _ _ h => h) (Ex.refl Hw) (fun _ => ?_) (fun h => by cases h)
                  rw [base, if_neg]
                  rintro ⟨h, _⟩
                  exact of_decide_eq_false z7 h
              · refine tail _ false l _ _ Hw (fun _ _ h => h) (fun _ _ h => h) (Ex.refl Hw) (fun h => by cases h) (fun _ => none_of ?_)
                intro a n w' x' he g
                injection he with h1 h2
                injection h2 with h2 _
                rw [← h2] at g
                exact of_decide_eq_false z3 g.2
            · refine tail _ false l _ _ Hw (fun _ _ h => h) (fun _ _ h => h) (Ex.refl Hw) (fun h => by cases h) (fun _ => none_of ?_)
              intro a n w' x' he g
              injection he with h1 _
              rw [← h1] at g
              exact of_decide_eq_false z2 g.1
          · refine tail _ false l _ _ Hw (fun _ _ h => h) (fun _ _ h => h) (Ex.refl Hw) (fun h => by cases h) (fun _ => none_of ?_)
            intro a n w' x' he _
            rw [he, eI] at z1
            exact of_decide_eq_false z1 rfl
    · obtain ⟨d, l, a5, a6, a7, a8, ec, hrun, hl, ⟨hs8, hn5⟩, rfl⟩ := hP
      rw [List.length_map, List.take_length] at hrun
      have hq3 := ec _ _ x3
      obtain ⟨lst, last, hlst⟩ : ∃ lst last, linesOf z = lst ++ [last] := ⟨_, _, (List.dropLast_concat_getLast lne).symm⟩
      have hgl : (linesOf z).getLast? = some last := by rw [hlst]; simp
      have wv : lawWrong z = if last ≠ Str.empty ∨ d.step < 8 then (linesOf z).length else 0 := by
        unfold lawWrong
        rw [hL, hrun]
        show (if (linesOf z).getLast? ≠ some Str.empty ∨ d.step < 8 then (linesOf z).length else 0) = _
        rw [hgl]
        by_cases h1 : last = Str.empty
        · rw [h1]
          simp
        · rw [if_pos (.inl (fun h => h1 (Option.some.inj h))), if_pos (.inl h1)]
      have hlast : atI ((linesOf z).map V.str) (-1) = some (V.str last) := by
        rw [hlst, List.map_append]
        exact atI_last _ _
      have fin : ∀ n : Nat, lawWrong z = n → Q (.int (n : Nat)) Hc := fun n hn => by
        rw [← hn]
        exact q Hc (eH3.trans ec)
      have finL : lawWrong z = (linesOf z).length → Q (.int (((linesOf z).map V.str).length : Nat)) Hc := fun h => by
        rw [List.length_map]
        exact fin _ h
      refine ⟨_, rfl, _, rfl, q1, _, _, V.str last, rfl, rfl, SqL.of hq3, hlast, rfl, _, rfl, ?_⟩
      rw [eS]
      refine iteB (c := !_) (fun z1 => ?_) (fun z1 => ?_)
      · refine ⟨_, rfl, q1, _, rfl, .inl (SqL.of hq3), finL ?_⟩
        rw [wv, if_pos (.inl (fun h => by
          rw [show last = Str.ofString "" from h, decide_eq_true rfl] at z1
          cases z1))]
      · have hl0 : last = Str.empty := of_decide_eq_true (nf z1)
        refine ⟨_, rfl, _, _, rfl, rfl, _, rfl, ?_⟩
        refine iteB (fun z2 => ?_) (fun z2 => ?_)
        · have v := of_decide_eq_true z2
          refine ⟨_, rfl, q1, _, rfl, .inl (SqL.of hq3), finL ?_⟩
          rw [wv, if_pos (.inr (by omega))]
        · have v := of_decide_eq_false z2
          refine fin 0 ?_
          rw [wv, if_neg (by rintro (h | h); exact h hl0; omega)]
end
end U
/-! ## the law: _law_other_row -/
namespace U
open PySem PySem.Spec PyProof.Rows L2 StX TL
section
variable {W : Wd}
/-! ### how long, of which signs -/
def tot (ws : List Str) : Nat := (ws.map (·.length)).sum + ws.length
def oks (ws : List Str) : Prop := ∀ w ∈ ws, PyData.strOk w = true
theorem tot_app (a b : List Str) : tot (a ++ b) = tot a + tot b := by
  unfold tot
  rw [List.map_append, List.sum_append, List.length_append]
  omega
theorem tot_split (ws : List Str) (i : Nat) : tot (ws.take i) + tot (ws.drop i) = tot ws := by
  rw [← tot_app, List.take_append_drop]
theorem tot_drop_le (ws : List Str) (i j : Nat) (h : i ≤ j) : tot (ws.drop j) ≤ tot (ws.drop i) := by
  have e : ws.drop j = (ws.drop i).drop (j - i) := by rw [List.drop_drop]; congr 1; omega
  rw [e]
  have := tot_split (ws.drop i) (j - i)
  omega
theorem tot_mem {ws : List Str} {w : Str} (h : w ∈ ws) : w.length + 1 ≤ tot ws := by
  induction ws with
  | nil => cases h
  | cons a r ih =>
    have e : tot (a :: r) = a.length + 1 + tot r := by
      unfold tot
      rw [List.map_cons, List.sum_cons, List.length_cons]
      omega
    rcases List.mem_cons.mp h with z | z
    · rw [e, z]
      omega
    · have := ih z
      omega
theorem oks_app {a b : List Str} (h1 : oks a) (h2 : oks b) : oks (a ++ b) := fun w hw => (List.mem_append.mp hw).elim (h1 w) (h2 w)
theorem oks_take {ws : List Str} (h : oks ws) (i : Nat) : oks (ws.take i) := fun w hw => h w (List.mem_of_mem_take hw)
theorem oks_drop {ws : List Str} (h : oks ws) (i : Nat) : oks (ws.drop i) := fun w hw => h w (List.mem_of_mem_drop hw)
theorem joinL_len (s : Nat) : ∀ l : List (List Nat), (joinL [s] l).length ≤ (l.map List.length).sum + l.length
  | [] => by simp [joinL]
  | [p] => by simp [joinL]
  | p :: q :: r => by
    have ih := joinL_len s (q :: r)
    show (p ++ ([s] ++ joinL [s] (q :: r))).length ≤ _
    rw [List.length_append, List.length_append, List.map_cons, List.sum_cons]
    show p.length + (1 + (joinL [s] (q :: r)).length) ≤ p.length + ((q :: r).map List.length).sum + ((q :: r).length + 1)
    omega
theorem joinL_len' (s : Nat) : ∀ l : List (List Nat), l ≠ [] → (joinL [s] l).length + 1 = (l.map List.length).sum + l.length
  | [], h => absurd rfl h
  | [p], _ => by simp [joinL]
  | p :: q :: r, _ => by
    have ih := joinL_len' s (q :: r) (by simp)
    show (p ++ ([s] ++ joinL [s] (q :: r))).length + 1 = _
    rw [List.length_append, List.length_append, List.map_cons, List.sum_cons]
    show p.length + (1 + (joinL [s] (q :: r)).length) + 1 = p.length + ((q :: r).map List.length).sum + ((q :: r).length + 1)
    omega
theorem joinL_mem {s c : Nat} : ∀ {l : List (List Nat)}, c ∈ joinL [s] l → c = s ∨ ∃ p ∈ l, c ∈ p
  | [], h => by cases h
  | [p], h => .inr ⟨p, .head _, h⟩
  | p :: q :: r, h => by
    have h2 : c ∈ p ++ ([s] ++ joinL [s] (q :: r)) := h
    rcases List.mem_append.mp h2 with z | z
    · exact .inr ⟨p, .head _, z⟩
    · rcases List.mem_append.mp z with z | z
      · exact .inl (List.mem_singleton.mp z)
      · rcases joinL_mem z with z | ⟨p', hp, hc⟩
        · exact .inl z
        · exact .inr ⟨p', .tail _ hp, hc⟩
theorem map_len_tl (ws : List Str) : (ws.map tl).map List.length = ws.map (·.length) := by
  rw [List.map_map]
  exact List.map_congr_left fun w _ => (len_tl w).symm
theorem join_le {y : Str} {s : Nat} (h : Sep y s) (ws : List Str) : (Txt.join y ws).length ≤ tot ws := by
  rw [len_tl, join_eq, tl_join, h.tl]
  have := joinL_len s (ws.map tl)
  rw [map_len_tl, List.length_map] at this
  exact this
theorem cut_tot {y : Str} {s : Nat} (h : Sep y s) (z : Str) : tot (Txt.split z y) = z.length + 1 := by
  have e := congrArg Str.length (cut_join h z)
  rw [len_tl, tl_join, h.tl] at e
  have := joinL_len' s ((Txt.split z y).map tl) (by simpa using cut_ne h z)
  rw [map_len_tl, List.length_map] at this
  unfold tot
  omega
theorem strOk_tl {z : Str} : PyData.strOk z = true ↔ ∀ c ∈ tl z, c < 0x110000 := by
  unfold PyData.strOk
  rw [← Array.all_toList, List.all_eq_true]
  constructor
  · intro h c hc
    exact of_decide_eq_true (h c hc)
  · intro h c hc
    exact decide_eq_true (h c hc)
theorem join_ok {y : Str} {s : Nat} (h : Sep y s) {ws : List Str} (ok : oks ws) : PyData.strOk (Txt.join y ws) = true := by
  have hs : s < 256 := by
    have := h.all
    rw [← Array.all_toList, List.all_eq_true] at this
    have := this s (by rw [show y.cps.toList = [s] from h.tl]; exact .head _)
    exact of_decide_eq_true this
  refine strOk_tl.mpr fun c hc => ?_
  rw [join_eq, tl_join, h.tl] at hc
  rcases joinL_mem hc with z | ⟨p, hp, z⟩
  · omega
  · obtain ⟨w, hw, rfl⟩ := List.mem_map.mp hp
    exact strOk_tl.mp (ok w hw) c z
theorem app_ok {a b : Str} (h1 : PyData.strOk a = true) (h2 : PyData.strOk b = true) : PyData.strOk (a ++ b) = true := by
  refine strOk_tl.mpr fun c hc => ?_
  rw [tl_append] at hc
  rcases List.mem_append.mp hc with z | z
  · exact strOk_tl.mp h1 c z
  · exact strOk_tl.mp h2 c z
abbrev orN : List Str := ["_law_pot_here", "_law_row", "_law_words", "_law_at", "_law_way", "_law_some"]
theorem sc_law_orow : FnScope orN ["_law_pot_here", "_law_row"] (defScope s__law_other_row) := ⟨rfl, rfl, rfl, by decide +kernel, rfl, by decide +kernel, by decide +kernel⟩
def sp_law_orow : Sp := fun vs H Q _ => ∃ (p : Addr) (z : Str), vs = [.ref p, .str z] ∧ Pot H p ∧ z.length ≤ 1000 ∧ PyData.strOk z = true ∧ ∀ H' y, ExP p H H' → Pot H' p → y.length ≤ 2 * z.length + 20 → PyData.strOk y = true → Q (.str y) H'
def someT : List Str := ["0", "1", "2", "3", "4", "8", "16", "32", "64", "128", "129", "yes", "no", "whole", "float", "sign"]
def someU : List Str := ["zeros", "free", "same", "slots", "kind", "fill", "a", "ab", "abcdefghi", "A", "-1", "+1", ""]
theorem some_ok : ∀ w ∈ someT ++ someU, w.length ≤ 9 ∧ PyData.strOk w = true := by decide +kernel
theorem ok_law_orow (T : Tx W) : Fn W CX0 3 (ga W.K "_law_other_row") ["_law_pot_here", "_law_row"] sp_law_orow := by
  obtain ⟨fd, F⟩ := T.d__law_other_row
  refine ⟨⟨fd, ?_, F.bindsN fun _ _ _ _ _ _ us hl => match us, hl with | [_, _], _ => rfl⟩, F.kp⟩
  refine F.ok sc_law_orow (fun vs H Q E h => ?_) (fun cdv A outer s H vs Q E hr h => ?_)
  · obtain ⟨p, z, rfl, _⟩ := h
    rfl
  · obtain ⟨p, z, rfl, hp, hz, zok, q⟩ := h
    have nN := sc_law_orow.nd
    refine ⟨_, PSs.nox (pss_cons (ps_set (i := 2) nN rfl (Or.inl rfl) (pe_bm PySem.F.plainAttrs_str PySem.F.slot_str_split PySem.F.type_str_split mt_split (pv 1) (pa_cons pe_str pa_nil)))
      (pss_cons (ps_par (i := 3) (j := 4) (by rfl) nN rfl rfl (by decide) rfl rfl (pa_cons (u_call (ok_law_draw T) T.g__law_draw hr (pa_cons (pv 0) (pa_cons (pe_callB call_len_seq (by rfl) T.f_len (by decide +kernel) (pa_cons (pv 2) pa_nil)) pa_nil))) (pa_cons (u_call (ok_law_draw T) T.g__law_draw hr (pa_cons (pv 0) (pa_cons pe_int pa_nil))) pa_nil)) (by rfl))
      (pss_cons (ps_if (pt_cmpR op_eq (pv 4) pe_int (nomark _)) (pss_one (ps_ret (pe_bm PySem.F.plainAttrs_str PySem.F.slot_str_join PySem.F.type_str_join mt_join pe_str (pa_cons (pe_op op_cat (pe_slice sl_list (pv 2) po_none (po_some (pv 3))) (pe_slice sl_list (pv 2) (po_some (pe_op op_add (pv 3) pe_int)) po_none)) pa_nil)))) pss_nil)
      (pss_cons (ps_if (pt_cmpR op_eq (pv 4) pe_int (nomark _)) (pss_one (ps_ret (pe_bm PySem.F.plainAttrs_str PySem.F.slot_str_join PySem.F.type_str_join mt_join pe_str (pa_cons (pe_op op_cat (pe_op op_cat (pe_slice sl_list (pv 2) po_none (po_some (pv 3))) (pe_lst (pa_cons (pe_ix ix_list (pv 2) (pv 3) (fun _ _ => rfl)) (pa_cons (pe_ix ix_list (pv 2) (pv 3) (fun _ _ => rfl)) pa_nil)))) (pe_slice sl_list (pv 2) (po_some (pe_op op_add (pv 3) pe_int)) po_none)) pa_nil)))) pss_nil)
      (pss_cons (ps_if (pt_cmpR op_eq (pv 4) pe_int (nomark _)) (pss_one (ps_ret (pe_bm PySem.F.plainAttrs_str PySem.F.slot_str_join PySem.F.type_str_join mt_join pe_str (pa_cons (pe_op op_cat (pe_op op_cat (pe_slice sl_list (pv 2) po_none (po_some (pv 3))) (pe_lst (pa_cons pe_str (pa_cons (pe_ix ix_list (pv 2) (pv 3) (fun _ _ => rfl)) pa_nil)))) (pe_slice sl_list (pv 2) (po_some (pe_op op_add (pv 3) pe_int)) po_none)) pa_nil)))) pss_nil)
      (pss_cons (ps_if (pt_cmpR op_eq (pv 4) pe_int (nomark _)) (pss_one (ps_ret (pe_bm PySem.F.plainAttrs_str PySem.F.slot_str_join PySem.F.type_str_join mt_join pe_str (pa_cons (pe_op op_cat (pe_op op_cat (pe_slice sl_list (pv 2) po_none (po_some (pv 3))) (pe_lst (pa_cons (pe_op op_add_str pe_str (pe_ix ix_list (pv 2) (pv 3) (fun _ _ => rfl))) pa_nil))) (pe_slice sl_list (pv 2) (po_some (pe_op op_add (pv 3) pe_int)) po_none)) pa_nil)))) pss_nil)
      (pss_cons (ps_set (i := 5) nN rfl (Or.inl rfl) (pe_lst (pa_cons pe_str (pa_cons pe_str (pa_cons pe_str (pa_cons pe_str (pa_cons pe_str (pa_cons pe_str (pa_cons pe_str (pa_cons pe_str (pa_cons pe_str (pa_cons pe_str (pa_cons pe_str (pa_cons pe_str (pa_cons pe_str (pa_cons pe_str (pa_cons pe_str (pa_cons pe_str pa_nil))))))))))))))))))
      (pss_cons (ps_set (i := 5) nN rfl (Or.inl rfl) (pe_op op_cat (pv 5) (pe_lst (pa_cons pe_str (pa_cons pe_str (pa_cons pe_str (pa_cons pe_str (pa_cons pe_str (pa_cons pe_str (pa_cons pe_str (pa_cons pe_str (pa_cons pe_str (pa_cons pe_str (pa_cons pe_str (pa_cons pe_str (pa_cons pe_str pa_nil))))))))))))))))
      (pss_one (ps_ret (pe_bm PySem.F.plainAttrs_str PySem.F.slot_str_join PySem.F.type_str_join mt_join pe_str (pa_cons (pe_op op_cat (pe_op op_cat (pe_slice sl_list (pv 2) po_none (po_some (pv 3))) (pe_lst (pa_cons (u_call (ok_law_pick T) T.g__law_pick hr (pa_cons (pv 0) (pa_cons (pv 5) pa_nil))) pa_nil))) (pe_slice sl_list (pv 2) (po_some (pe_op op_add (pv 3) pe_int)) po_none)) pa_nil)))))))))))), ?_⟩
    refine ⟨_, rfl, rfl, z, SP, rfl, rfl, rfl, by rw [sizeLine_eq]; omega, fun wq hwq => ?_⟩
    have eW : Ex H (upd H wq (.lst ((wordsOf z).map V.str))) := (Ex.refl H).more hwq
    have hw0 := upd_same (H := H) (a := wq) (o := .lst ((wordsOf z).map V.str))
    have pw0 := hp.ex eW
    have wp : wq ≠ p := (hp.ne hwq).symm
    change tSeq _ _ _ _ (upd H wq (.lst ((wordsOf z).map V.str)))
    have wok : oks (wordsOf z) := cut_ok sep_SP z zok
    have wne : wordsOf z ≠ [] := cut_ne sep_SP z
    have wtot : tot (wordsOf z) = z.length + 1 := cut_tot sep_SP z
    have wmany : (wordsOf z).length ≤ z.length + 1 := cut_many sep_SP z
    generalize upd H wq (.lst ((wordsOf z).map V.str)) = Hw at eW hw0 pw0 ⊢
    generalize wordsOf z = ws at *
    have wpos : 0 < ws.length := List.length_pos_iff.mpr wne
    have lws : ((ws.map V.str).length : Int) = ws.length := by rw [List.length_map]
    refine ⟨_, rfl, _, rfl, wq, _, rfl, .inl (SqL.of hw0), p, _, rfl, pw0, by rw [lws]; omega, by rw [lws]; omega, fun H1 at_ at0 at1 e1 p1 => ?_⟩
    rw [lws] at at1
    refine ⟨_, rfl, p, 7, rfl, p1, by decide, by decide, fun H2 way w0 w7 e2 p2 => ⟨_, _, rfl, ?_⟩⟩
    have e02 := (eW.p.trans e1).trans e2
    have hw2 := e2 wq _ wp (e1 wq _ wp hw0)
    obtain ⟨n, rfl⟩ : ∃ n : Nat, at_ = n := ⟨at_.toNat, by omega⟩
    have hn : n < ws.length := by omega
    have hwn : (ws.map V.str)[n]? = some (V.str ws[n]) := by rw [List.getElem?_map, List.getElem?_eq_getElem hn]; rfl
    have hat := atI_nat hwn
    have lo : cutV (ws.map V.str) none (some (n : Int)) = (ws.take n).map V.str := by rw [cut_lo, List.map_take]
    have hi : cutV (ws.map V.str) (some ((n : Int) + 1)) none = (ws.drop (n + 1)).map V.str := by
      have z1 := cut_hi (ws.map V.str) (n + 1)
      rw [show (((n + 1 : Nat)) : Int) = (n : Int) + 1 by omega] at z1
      rw [z1, List.map_drop]
    have tws : tot (ws.take n) + (ws[n].length + 1) + tot (ws.drop (n + 1)) = tot ws := by
      have z1 := tot_split ws n
      rw [List.drop_eq_getElem_cons hn] at z1
      have z2 : tot (ws[n] :: ws.drop (n + 1)) = ws[n].length + 1 + tot (ws.drop (n + 1)) := by
        unfold tot
        rw [List.map_cons, List.sum_cons, List.length_cons]
        omega
      omega
    have okn := wok _ (List.getElem_mem hn)
    have ltk : (ws.take n).length ≤ 1001 := by rw [List.length_take]; omega
    have ldr : (ws.drop (n + 1)).length ≤ 1001 := by rw [List.length_drop]; omega
    -- the end of each way
    have fin : ∀ (mid : List Str) (c : Addr) (H' : Hp), ExP p H H' → Pot H' p → H' c = some (.lst ((ws.take n ++ mid ++ ws.drop (n + 1)).map V.str)) → 0 ≤ z.length → tot mid ≤ 2 * (ws[n].length + 1) ∨ tot mid ≤ ws[n].length + 12 ∨ tot mid ≤ 10 → oks mid →
        rJoinK W.K (.str (Str.ofString " ")) [.ref c] H' Q := fun mid c H' e pp hc _ hm ok => by
      have ht : tot (ws.take n ++ mid ++ ws.drop (n + 1)) ≤ 2 * z.length + 20 := by
        rw [tot_app, tot_app]
        rcases hm with h | h | h <;> omega
      refine ⟨SP, c, _, rfl, rfl, .inl (SqL.of hc), ?_, q H' _ e pp ?_ (join_ok sep_SP (oks_app (oks_app (oks_take wok n) ok) (oks_drop wok (n + 1))))⟩
      · have z1 : SP.length = 1 := rfl
        rw [z1, Nat.mul_one]
        have z2 : ((ws.take n ++ mid ++ ws.drop (n + 1)).map (·.length)).sum + (ws.take n ++ mid ++ ws.drop (n + 1)).length ≤ 2 * z.length + 20 := ht
        omega
      · have := join_le sep_SP (ws.take n ++ mid ++ ws.drop (n + 1))
        omega
    have sz : ∀ k : Nat, k ≤ 5000 → k ≤ sizeLine := fun k h => by rw [sizeLine_eq]; omega
    refine ⟨_, rfl, rfl, _, rfl, iteB (fun _ => ?_) (fun _ => ?_)⟩
    · refine ⟨rfl, _, rfl, _, rfl, _, rfl, wq, _, rfl, SqL.of hw2, fun s1 hs1 => ?_⟩
      rw [lo]
      have hw3 := ((Ex.refl H2).more (o := .lst ((ws.take n).map V.str)) hs1) _ _ hw2
      refine ⟨_, rfl, _, rfl, _, _, rfl, rfl, _, rfl, wq, _, rfl, SqL.of hw3, fun s3 hs3 => ?_⟩
      rw [hi]
      refine ⟨s1, s3, _, _, rfl, rfl, ((Ex.refl _).more hs3) _ _ upd_same, upd_same, sz _ (by rw [List.length_map, List.length_map]; omega), fun c hc => fin [] c _ (e02.trans ((((Ex.refl _).more hs1).trans ((Ex.refl _).more hs3)).trans ((Ex.refl _).more hc)).p) (p2.ex ((((Ex.refl _).more hs1).trans ((Ex.refl _).more hs3)).trans ((Ex.refl _).more hc))) ?_ (Nat.zero_le _) (.inl (by show 0 ≤ _; omega)) (fun w h => absurd h List.not_mem_nil)⟩
      rw [upd_same, List.append_nil, List.map_append]
    refine ⟨_, rfl, rfl, _, rfl, iteB (fun _ => ?_) (fun _ => ?_)⟩
    · refine ⟨rfl, _, rfl, _, rfl, _, rfl, wq, _, rfl, SqL.of hw2, fun s1 hs1 => ?_⟩
      rw [lo]
      have eA : Ex H2 (upd H2 s1 (.lst ((ws.take n).map V.str))) := ((Ex.refl _).more hs1)
      have hA := upd_same (H := H2) (a := s1) (o := .lst ((ws.take n).map V.str))
      generalize upd H2 s1 (.lst ((ws.take n).map V.str)) = HA at eA hA ⊢
      have hwA := eA _ _ hw2
      refine ⟨_, rfl, _, rfl, wq, _, _, V.str ws[n], rfl, rfl, SqL.of hwA, hat, _, rfl, _, rfl, wq, _, _, V.str ws[n], rfl, rfl, SqL.of hwA, hat, by show 2 ≤ sizeLine; decide, fun xq hxq => ?_⟩
      have eB : Ex HA (upd HA xq (.lst ([V.str ws[n], V.str ws[n]]))) := (Ex.refl _).more hxq
      refine ⟨s1, xq, _, _, rfl, rfl, eB _ _ hA, upd_same, sz _ (by rw [List.length_map]; show _ + 2 ≤ _; omega), fun c1 hc1 => ?_⟩
      have eC : Ex HA (upd (upd HA xq (.lst ([V.str ws[n], V.str ws[n]]))) c1 (.lst ((ws.take n).map V.str ++ [V.str ws[n], V.str ws[n]]))) := eB.more hc1
      have hC := upd_same (H := upd HA xq (.lst ([V.str ws[n], V.str ws[n]]))) (a := c1) (o := .lst ((ws.take n).map V.str ++ [V.str ws[n], V.str ws[n]]))
      generalize upd (upd HA xq (.lst ([V.str ws[n], V.str ws[n]]))) c1 (.lst ((ws.take n).map V.str ++ [V.str ws[n], V.str ws[n]])) = HC at eC hC ⊢
      have hwC := eC _ _ hwA
      refine ⟨_, rfl, _, rfl, _, _, rfl, rfl, _, rfl, wq, _, rfl, SqL.of hwC, fun s3 hs3 => ?_⟩
      rw [hi]
      have eD : Ex HC (upd HC s3 (.lst ((ws.drop (n + 1)).map V.str))) := (Ex.refl _).more hs3
      refine ⟨c1, s3, _, _, rfl, rfl, eD _ _ hC, upd_same, sz _ (by rw [List.length_append, List.length_map, List.length_map]; show _ + 2 + _ ≤ _; omega), fun c2 hc2 => fin [ws[n], ws[n]] c2 _ (e02.trans (((eA.trans eC).trans eD).more hc2).p) (p2.ex (((eA.trans eC).trans eD).more hc2)) ?_ ?_ ?_ ?_⟩
      · rw [upd_same, List.map_append, List.map_append]
        rfl
      · have : tot [ws[n], ws[n]] = 2 * (ws[n].length + 1) := by unfold tot; simp only [List.map_cons, List.map_nil, List.sum_cons, List.sum_nil, List.length_cons, List.length_nil]; omega
        omega
      · have : tot [ws[n], ws[n]] = 2 * (ws[n].length + 1) := by unfold tot; simp only [List.map_cons, List.map_nil, List.sum_cons, List.sum_nil, List.length_cons, List.length_nil]; omega
        exact .inl (by omega)
      · intro w hw
        rcases List.mem_cons.mp hw with h | h
        · rw [h]; exact okn
        · rw [List.mem_singleton.mp h]; exact okn

    refine ⟨_, rfl, rfl, _, rfl, iteB (fun _ => ?_) (fun _ => ?_)⟩
    · refine ⟨rfl, _, rfl, _, rfl, _, rfl, wq, _, rfl, SqL.of hw2, fun s1 hs1 => ?_⟩
      rw [lo]
      have eA : Ex H2 (upd H2 s1 (.lst ((ws.take n).map V.str))) := ((Ex.refl _).more hs1)
      have hA := upd_same (H := H2) (a := s1) (o := .lst ((ws.take n).map V.str))
      generalize upd H2 s1 (.lst ((ws.take n).map V.str)) = HA at eA hA ⊢
      have hwA := eA _ _ hw2
      refine ⟨_, rfl, _, rfl, wq, _, _, V.str ws[n], rfl, rfl, SqL.of hwA, hat, by show 2 ≤ sizeLine; decide, fun xq hxq => ?_⟩
      have eB : Ex HA (upd HA xq (.lst ([V.str (Str.ofString ""), V.str ws[n]]))) := (Ex.refl _).more hxq
      refine ⟨s1, xq, _, _, rfl, rfl, eB _ _ hA, upd_same, sz _ (by rw [List.length_map]; show _ + 2 ≤ _; omega), fun c1 hc1 => ?_⟩
      have eC : Ex HA (upd (upd HA xq (.lst ([V.str (Str.ofString ""), V.str ws[n]]))) c1 (.lst ((ws.take n).map V.str ++ [V.str (Str.ofString ""), V.str ws[n]]))) := eB.more hc1
      have hC := upd_same (H := upd HA xq (.lst ([V.str (Str.ofString ""), V.str ws[n]]))) (a := c1) (o := .lst ((ws.take n).map V.str ++ [V.str (Str.ofString ""), V.str ws[n]]))
      generalize upd (upd HA xq (.lst ([V.str (Str.ofString ""), V.str ws[n]]))) c1 (.lst ((ws.take n).map V.str ++ [V.str (Str.ofString ""), V.str ws[n]])) = HC at eC hC ⊢
      have hwC := eC _ _ hwA
      refine ⟨_, rfl, _, rfl, _, _, rfl, rfl, _, rfl, wq, _, rfl, SqL.of hwC, fun s3 hs3 => ?_⟩
      rw [hi]
      have eD : Ex HC (upd HC s3 (.lst ((ws.drop (n + 1)).map V.str))) := (Ex.refl _).more hs3
      refine ⟨c1, s3, _, _, rfl, rfl, eD _ _ hC, upd_same, sz _ (by rw [List.length_append, List.length_map, List.length_map]; show _ + 2 + _ ≤ _; omega), fun c2 hc2 => fin [Str.ofString "", ws[n]] c2 _ (e02.trans (((eA.trans eC).trans eD).more hc2).p) (p2.ex (((eA.trans eC).trans eD).more hc2)) ?_ ?_ ?_ ?_⟩
      · rw [upd_same, List.map_append, List.map_append]
        rfl
      · have : (Str.ofString "").length = 0 := rfl
        have : tot [Str.ofString "", ws[n]] = ws[n].length + 2 := by unfold tot; simp only [List.map_cons, List.map_nil, List.sum_cons, List.sum_nil, List.length_cons, List.length_nil]; omega
        omega
      · have : (Str.ofString "").length = 0 := rfl
        have : tot [Str.ofString "", ws[n]] = ws[n].length + 2 := by unfold tot; simp only [List.map_cons, List.map_nil, List.sum_cons, List.sum_nil, List.length_cons, List.length_nil]; omega
        exact .inr (.inl (by omega))
      · intro w hw
        rcases List.mem_cons.mp hw with h | h
        · rw [h]; decide +kernel
        · rw [List.mem_singleton.mp h]; exact okn

    refine ⟨_, rfl, rfl, _, rfl, iteB (fun _ => ?_) (fun _ => ?_)⟩
    · refine ⟨rfl, _, rfl, _, rfl, _, rfl, wq, _, rfl, SqL.of hw2, fun s1 hs1 => ?_⟩
      rw [lo]
      have eA : Ex H2 (upd H2 s1 (.lst ((ws.take n).map V.str))) := ((Ex.refl _).more hs1)
      have hA := upd_same (H := H2) (a := s1) (o := .lst ((ws.take n).map V.str))
      generalize upd H2 s1 (.lst ((ws.take n).map V.str)) = HA at eA hA ⊢
      have hwA := eA _ _ hw2
      refine ⟨_, rfl, _, rfl, wq, _, _, V.str ws[n], rfl, rfl, SqL.of hwA, hat, _, _, rfl, rfl, sz _ (by have : (Str.ofString "0").length = 1 := rfl; have := tot_mem (List.getElem_mem hn); omega), by show 1 ≤ sizeLine; decide, fun xq hxq => ?_⟩
      have eB : Ex HA (upd HA xq (.lst ([V.str (Str.ofString "0" ++ ws[n])]))) := (Ex.refl _).more hxq
      refine ⟨s1, xq, _, _, rfl, rfl, eB _ _ hA, upd_same, sz _ (by rw [List.length_map]; show _ + 1 ≤ _; omega), fun c1 hc1 => ?_⟩
      have eC : Ex HA (upd (upd HA xq (.lst ([V.str (Str.ofString "0" ++ ws[n])]))) c1 (.lst ((ws.take n).map V.str ++ [V.str (Str.ofString "0" ++ ws[n])]))) := eB.more hc1
      have hC := upd_same (H := upd HA xq (.lst ([V.str (Str.ofString "0" ++ ws[n])]))) (a := c1) (o := .lst ((ws.take n).map V.str ++ [V.str (Str.ofString "0" ++ ws[n])]))
      generalize upd (upd HA xq (.lst ([V.str (Str.ofString "0" ++ ws[n])]))) c1 (.lst ((ws.take n).map V.str ++ [V.str (Str.ofString "0" ++ ws[n])])) = HC at eC hC ⊢
      have hwC := eC _ _ hwA
      refine ⟨_, rfl, _, rfl, _, _, rfl, rfl, _, rfl, wq, _, rfl, SqL.of hwC, fun s3 hs3 => ?_⟩
      rw [hi]
      have eD : Ex HC (upd HC s3 (.lst ((ws.drop (n + 1)).map V.str))) := (Ex.refl _).more hs3
      refine ⟨c1, s3, _, _, rfl, rfl, eD _ _ hC, upd_same, sz _ (by rw [List.length_append, List.length_map, List.length_map]; show _ + 1 + _ ≤ _; omega), fun c2 hc2 => fin [Str.ofString "0" ++ ws[n]] c2 _ (e02.trans (((eA.trans eC).trans eD).more hc2).p) (p2.ex (((eA.trans eC).trans eD).more hc2)) ?_ ?_ ?_ ?_⟩
      · rw [upd_same, List.map_append, List.map_append]
        rfl
      · have : (Str.ofString "0").length = 1 := rfl
        have z9 := str_len (Str.ofString "0") ws[n]
        have : tot [Str.ofString "0" ++ ws[n]] = ws[n].length + 2 := by unfold tot; simp only [List.map_cons, List.map_nil, List.sum_cons, List.sum_nil, List.length_cons, List.length_nil]; omega
        omega
      · have : (Str.ofString "0").length = 1 := rfl
        have z9 := str_len (Str.ofString "0") ws[n]
        have : tot [Str.ofString "0" ++ ws[n]] = ws[n].length + 2 := by unfold tot; simp only [List.map_cons, List.map_nil, List.sum_cons, List.sum_nil, List.length_cons, List.length_nil]; omega
        exact .inr (.inl (by omega))
      · intro w hw
        rw [List.mem_singleton.mp hw]; exact app_ok (by decide +kernel) okn

    refine ⟨by show 16 ≤ sizeLine; decide, fun l1 hl1 => ?_⟩
    refine ⟨_, rfl, by show 13 ≤ sizeLine; decide, fun l2 hl2 => ⟨l1, l2, someT.map V.str, someU.map V.str, rfl, rfl, ((Ex.refl _).more hl2) _ _ upd_same, upd_same, by show 29 ≤ sizeLine; decide, fun l3 hl3 => ?_⟩⟩
    have hHL : ∃ HL : Hp, HL = upd (upd (upd H2 l1 (.lst [V.str (Str.ofString "0"), V.str (Str.ofString "1"), V.str (Str.ofString "2"), V.str (Str.ofString "3"), V.str (Str.ofString "4"), V.str (Str.ofString "8"), V.str (Str.ofString "16"), V.str (Str.ofString "32"), V.str (Str.ofString "64"), V.str (Str.ofString "128"), V.str (Str.ofString "129"), V.str (Str.ofString "yes"), V.str (Str.ofString "no"), V.str (Str.ofString "whole"), V.str (Str.ofString "float"), V.str (Str.ofString "sign")])) l2 (.lst [V.str (Str.ofString "zeros"), V.str (Str.ofString "free"), V.str (Str.ofString "same"), V.str (Str.ofString "slots"), V.str (Str.ofString "kind"), V.str (Str.ofString "fill"), V.str (Str.ofString "a"), V.str (Str.ofString "ab"), V.str (Str.ofString "abcdefghi"), V.str (Str.ofString "A"), V.str (Str.ofString "-1"), V.str (Str.ofString "+1"), V.str (Str.ofString "")])) l3 (.lst (someT.map V.str ++ someU.map V.str)) := ⟨_, rfl⟩
    obtain ⟨HL, hHL⟩ := hHL
    have eL : Ex H2 HL := by rw [hHL]; exact (((Ex.refl _).more hl1).more hl2).more hl3
    have hL3 : HL l3 = some (.lst (someT.map V.str ++ someU.map V.str)) := by rw [hHL]; exact upd_same
    have pL := p2.ex eL
    have l3p : l3 ≠ p := ((p2.ex (((Ex.refl _).more hl1).more hl2)).ne hl3).symm
    rw [← hHL]
    clear hHL
    have e0L := e02.trans eL.p
    have hwL := eL _ _ hw2
    refine ⟨rfl, _, rfl, _, rfl, _, rfl, wq, _, rfl, SqL.of hwL, fun s1 hs1 => ?_⟩
    rw [lo]
    have eA : Ex HL (upd HL s1 (.lst ((ws.take n).map V.str))) := ((Ex.refl _).more hs1)
    have hA := upd_same (H := HL) (a := s1) (o := .lst ((ws.take n).map V.str))
    generalize upd HL s1 (.lst ((ws.take n).map V.str)) = HA at eA hA ⊢
    have hwA := eA _ _ hwL
    refine ⟨_, rfl, _, rfl, p, l3, _, rfl, pL.ex eA, eA _ _ hL3, l3p, by decide, by show 29 ≤ 1000; decide, fun HB v hv eB0 pB => ⟨by show 1 ≤ sizeLine; decide, fun xq hxq => ?_⟩⟩
    rw [← List.map_append] at hv
    obtain ⟨sw, hsw, rfl⟩ := List.mem_map.mp hv
    obtain ⟨sl, sok⟩ := some_ok sw hsw
    have s1p : s1 ≠ p := (pL.ne hs1).symm
    have hAB := eB0 _ _ s1p hA
    have hwB := eB0 _ _ wp hwA
    have e0B := (e0L.trans eA.p).trans eB0
    clear hwA eA hA
    have eA : Ex HB HB := Ex.refl HB
    have eB : Ex HB (upd HB xq (.lst ([V.str sw]))) := (Ex.refl _).more hxq
    refine ⟨s1, xq, _, _, rfl, rfl, eB _ _ hAB, upd_same, sz _ (by rw [List.length_map]; show _ + 1 ≤ _; omega), fun c1 hc1 => ?_⟩
    have eC : Ex HB (upd (upd HB xq (.lst ([V.str sw]))) c1 (.lst ((ws.take n).map V.str ++ [V.str sw]))) := eB.more hc1
    have hC := upd_same (H := upd HB xq (.lst ([V.str sw]))) (a := c1) (o := .lst ((ws.take n).map V.str ++ [V.str sw]))
    generalize upd (upd HB xq (.lst ([V.str sw]))) c1 (.lst ((ws.take n).map V.str ++ [V.str sw])) = HC at eC hC ⊢
    have hwC := eC _ _ hwB
    refine ⟨_, rfl, _, rfl, _, _, rfl, rfl, _, rfl, wq, _, rfl, SqL.of hwC, fun s3 hs3 => ?_⟩
    rw [hi]
    have eD : Ex HC (upd HC s3 (.lst ((ws.drop (n + 1)).map V.str))) := (Ex.refl _).more hs3
    refine ⟨c1, s3, _, _, rfl, rfl, eD _ _ hC, upd_same, sz _ (by rw [List.length_append, List.length_map, List.length_map]; show _ + 1 + _ ≤ _; omega), fun c2 hc2 => fin [sw] c2 _ (e0B.trans (((eA.trans eC).trans eD).more hc2).p) (pB.ex (((eA.trans eC).trans eD).more hc2)) ?_ ?_ ?_ ?_⟩
    · rw [upd_same, List.map_append, List.map_append]
      rfl
    · have : tot [sw] = sw.length + 1 := by unfold tot; simp only [List.map_cons, List.map_nil, List.sum_cons, List.sum_nil, List.length_cons, List.length_nil]; omega
      omega
    · have : tot [sw] = sw.length + 1 := by unfold tot; simp only [List.map_cons, List.map_nil, List.sum_cons, List.sum_nil, List.length_cons, List.length_nil]; omega
      exact .inr (.inr (by omega))
    · intro w hw
      rw [List.mem_singleton.mp hw]; exact sok

end
end U
/-! ## the law: _law_spoilt -/
namespace U
open PySem PySem.Spec PyProof.Rows L2 StX TL
section
variable {W : Wd}
/-! ### rows of bounded lengths -/
def RowsB (n k : Nat) (rs : List Str) : Prop := rs ≠ [] ∧ rs.length ≤ n ∧ ∀ r ∈ rs, r.length ≤ k ∧ PyData.strOk r = true
theorem RowsB.mono {n k n' k' : Nat} {rs : List Str} (h : RowsB n k rs) (h1 : n ≤ n') (h2 : k ≤ k') : RowsB n' k' rs := ⟨h.1, by have := h.2.1; omega, fun r hr => ⟨by have := (h.2.2 r hr).1; omega, (h.2.2 r hr).2⟩⟩
theorem cut_two (xs : List V) (i k : Nat) : cutV xs (some (i : Int)) (some ((i + k : Nat) : Int)) = (xs.drop i).take k := by
  unfold cutV
  rw [HT.sIx_nat, HT.sIx_nat]
  by_cases h : i ≤ xs.length
  · rw [Nat.min_eq_left h]
    by_cases h2 : i + k ≤ xs.length
    · rw [Nat.min_eq_left h2]
      congr 1
      omega
    · rw [Nat.min_eq_right (by omega), List.take_of_length_le (by rw [List.length_drop]; exact Nat.le_refl _), List.take_of_length_le (by rw [List.length_drop]; omega)]
  · rw [Nat.min_eq_right (by omega), Nat.min_eq_right (by omega), Nat.sub_self, List.take_zero, List.drop_of_length_le (by omega), List.take_nil]
theorem ext_drop {ys : List V} {rs : List Str} (e : ys = rs.map V.str) (i : Nat) : ys.drop i = (rs.drop i).map V.str := by rw [e, List.map_drop]
abbrev spN : List Str := ["_law_pot_here", "_law_rows", "_law_turn", "_law_at", "_law_way", "_law_lot"]
theorem sc_law_spoilt : FnScope spN ["_law_pot_here", "_law_rows"] (defScope s__law_spoilt) := ⟨rfl, rfl, rfl, by decide +kernel, rfl, by decide +kernel, by decide +kernel⟩
def sp_law_spoilt : Sp := fun vs H Q _ => ∃ (p l : Addr) (rs : List Str), vs = [.ref p, .ref l] ∧ Pot H p ∧ H l = some (.lst (rs.map V.str)) ∧ l ≠ p ∧ RowsB 18 40 rs ∧ ∀ H' l' rs', ExP p H H' → Pot H' p → H' l' = some (.lst (rs'.map V.str)) → l' ≠ p → RowsB 20 220 rs' → Q (.ref l') H'
theorem ok_law_spoilt (T : Tx W) : Fn W CX0 4 (ga W.K "_law_spoilt") ["_law_pot_here", "_law_rows"] sp_law_spoilt := by
  obtain ⟨fd, F⟩ := T.d__law_spoilt
  refine ⟨⟨fd, ?_, F.bindsN fun _ _ _ _ _ _ us hl => match us, hl with | [_, _], _ => rfl⟩, F.kp⟩
  refine F.ok sc_law_spoilt (fun vs H Q E h => ?_) (fun cdv A outer s H vs Q E hr h => ?_)
  · obtain ⟨p, l, rs, rfl, _⟩ := h
    rfl
  · obtain ⟨p, l, rs, rfl, hp, hl, lp, hB, q⟩ := h
    have nd := sc_law_spoilt.nd
    refine ⟨_, PSs.nox (pss_cons (ps_for PassesOwn.never rfl (pi_range1 (by rfl) T.f_range (pa_cons (u_call (ok_law_pick T) T.g__law_pick hr (pa_cons (pv 0) (pa_cons (pe_lst (pa_cons pe_int (pa_cons pe_int (pa_cons pe_int (pa_cons pe_int pa_nil))))) pa_nil))) pa_nil)) (pg_name (i := 2) nd rfl (Or.inl rfl))
        (pss_cons (ps_par (i := 3) (j := 4) (by rfl) nd rfl rfl (by decide) rfl rfl (pa_cons (u_call (ok_law_draw T) T.g__law_draw hr (pa_cons (pv 0) (pa_cons (pe_callB call_len_seq (by rfl) T.f_len (by decide +kernel) (pa_cons (pv 1) pa_nil)) pa_nil))) (pa_cons (u_call (ok_law_draw T) T.g__law_draw hr (pa_cons (pv 0) (pa_cons pe_int pa_nil))) pa_nil)) (by rfl))
        (pss_one (ps_if (PW.pt (pw_and (pt_cmpR op_eq (pv 4) pe_int (nomark _)) (pw_and1 (pt_cmpR op_gt (pe_callB call_len_seq (by rfl) T.f_len (by decide +kernel) (pa_cons (pv 1) pa_nil)) pe_int (nomark _)))))
          (pss_one (ps_set (i := 1) nd rfl (Or.inl rfl) (pe_op op_cat (pe_slice sl_list (pv 1) po_none (po_some (pv 3))) (pe_slice sl_list (pv 1) (po_some (pe_op op_add (pv 3) pe_int)) po_none))))
          (pss_one (ps_if (pt_cmpR op_eq (pv 4) pe_int (nomark _))
            (pss_one (ps_set (i := 1) nd rfl (Or.inl rfl) (pe_op op_cat (pe_op op_cat (pe_slice sl_list (pv 1) po_none (po_some (pv 3))) (pe_lst (pa_cons (pe_ix ix_list (pv 1) (pv 3) (fun _ _ => rfl)) pa_nil))) (pe_slice sl_list (pv 1) (po_some (pv 3)) po_none))))
            (pss_one (ps_if (pt_cmpR op_eq (pv 4) pe_int (nomark _))
              (pss_cons (ps_set (i := 5) nd rfl (Or.inl rfl) (pe_op op_cat (pe_slice sl_list (pv 1) po_none (po_some (pv 3))) (pe_slice sl_list (pv 1) (po_some (pe_op op_add (pv 3) pe_int)) (po_some (pe_op op_add (pv 3) pe_int)))))
              (pss_one (ps_set (i := 1) nd rfl (Or.inl rfl) (pe_op op_cat (pe_op op_cat (pv 5) (pe_slice sl_list (pv 1) (po_some (pv 3)) (po_some (pe_op op_add (pv 3) pe_int)))) (pe_slice sl_list (pv 1) (po_some (pe_op op_add (pv 3) pe_int)) po_none)))))
              (pss_one (ps_if (pt_cmpR op_eq (pv 4) pe_int (nomark _))
                (pss_one (ps_set (i := 1) nd rfl (Or.inl rfl) (pe_op op_cat (pe_op op_cat (pe_slice sl_list (pv 1) po_none (po_some (pv 3))) (pe_lst (pa_cons pe_str pa_nil))) (pe_slice sl_list (pv 1) (po_some (pv 3)) po_none))))
                (pss_one (ps_set (i := 1) nd rfl (Or.inl rfl) (pe_op op_cat (pe_op op_cat (pe_slice sl_list (pv 1) po_none (po_some (pv 3))) (pe_lst (pa_cons (u_call (ok_law_orow T) T.g__law_other_row hr (pa_cons (pv 0) (pa_cons (pe_ix ix_list (pv 1) (pv 3) (fun _ _ => rfl)) pa_nil))) pa_nil))) (pe_slice sl_list (pv 1) (po_some (pe_op op_add (pv 3) pe_int)) po_none))))))))))))))
      (pss_one (ps_ret (pv 1)))), ?_⟩
    refine ⟨_, rfl, by show 4 ≤ sizeLine; decide, fun l0 hl0 => pick_go (ExP.refl p H) hp hl0 (by simp) (by show 4 ≤ 1000; decide) (fun H1 v hv e1 p1 => ?_)⟩
    obtain ⟨N, rfl, hN⟩ : ∃ N : Nat, v = .int N ∧ N ≤ 2 := by
      simp only [List.mem_cons, List.not_mem_nil, or_false] at hv
      rcases hv with h | h | h | h
      · exact ⟨1, h, by decide⟩
      · exact ⟨1, h, by decide⟩
      · exact ⟨1, h, by decide⟩
      · exact ⟨2, h, by decide⟩
    refine ⟨_, rfl, by omega, by omega, for_it (walk_range (lo := 0) (n := N)) (fun i σ Hc => ∃ (c : Addr) (rs : List Str) (a2 a3 a4 a5 : Option V), ExP p H Hc ∧ Pot Hc p ∧ Hc c = some (.lst (rs.map V.str)) ∧ c ≠ p ∧ RowsB (18 + i) (60 * 2 ^ i - 20) rs ∧ σ = [some (.ref p), some (.ref c), a2, a3, a4, a5])
      ⟨l, rs, none, none, none, none, e1, p1, e1 _ _ lp hl, lp, hB, rfl⟩ (fun _ _ _ _ _ => True.intro) (fun i y σ Hc H2 hi hP hY => ?_) (fun σ Hc hP => ?_)⟩
    · obtain ⟨c, rs, a2, a3, a4, a5, ec, pc, hc, cp, hB, rfl⟩ := hP
      obtain ⟨rfl, rfl⟩ := hY
      have lws : ((rs.map V.str).length : Int) = rs.length := by rw [List.length_map]
      have rpos : 0 < rs.length := List.length_pos_iff.mpr hB.1
      have rle := hB.2.1
      have i2 : i ≤ 1 := by omega
      have pw : 60 * 2 ^ (i + 1) - 20 = 2 * (60 * 2 ^ i - 20) + 20 ∧ 60 * 2 ^ i - 20 ≤ 100 := by
        have : i = 0 ∨ i = 1 := by omega
        rcases this with h | h <;> subst h <;> decide
      obtain ⟨pw1, pw2⟩ := pw
      refine ⟨_, rfl, _, rfl, c, _, rfl, .inl (SqL.of hc), p, _, rfl, pc, by rw [lws]; omega, by rw [lws]; omega, fun H3 at_ at0 at1 e3 p3 => ?_⟩
      rw [lws] at at1
      refine ⟨_, rfl, p, 8, rfl, p3, by decide, by decide, fun H4 way w0 w8 e4 p4 => ⟨_, _, rfl, ?_⟩⟩
      have e04 := (ec.trans e3).trans e4
      have hc4 := e4 _ _ cp (e3 _ _ cp hc)
      obtain ⟨n, rfl⟩ : ∃ n : Nat, at_ = n := ⟨at_.toNat, by omega⟩
      have hn : n < rs.length := by omega
      have hat := atI_nat (xs := rs.map V.str) (show (rs.map V.str)[n]? = some (V.str rs[n]) by rw [List.getElem?_map, List.getElem?_eq_getElem hn]; rfl)
      have lo : cutV (rs.map V.str) none (some (n : Int)) = (rs.take n).map V.str := by rw [cut_lo, List.map_take]
      have hi' : ∀ k : Nat, cutV (rs.map V.str) (some ((n : Int) + (k : Int))) none = (rs.drop (n + k)).map V.str := fun k => by
        have z1 := cut_hi (rs.map V.str) (n + k)
        rw [show (((n + k : Nat)) : Int) = (n : Int) + k by omega] at z1
        rw [z1, List.map_drop]
      have hi0 : cutV (rs.map V.str) (some (n : Int)) none = (rs.drop n).map V.str := by rw [cut_hi, List.map_drop]
      have m1 : cutV (rs.map V.str) (some (n : Int)) (some ((n : Int) + 1)) = ((rs.drop n).take 1).map V.str := by
        have z1 := cut_two (rs.map V.str) n 1
        rw [show (((n + 1 : Nat)) : Int) = (n : Int) + 1 by omega] at z1
        rw [z1, List.map_take, List.map_drop]
      have m2 : cutV (rs.map V.str) (some ((n : Int) + 1)) (some ((n : Int) + 2)) = ((rs.drop (n + 1)).take 1).map V.str := by
        have z1 := cut_two (rs.map V.str) (n + 1) 1
        rw [show (((n + 1 : Nat)) : Int) = (n : Int) + 1 by omega, show (((n + 1 + 1 : Nat)) : Int) = (n : Int) + 2 by omega] at z1
        rw [z1, List.map_take, List.map_drop]
      have inr : ∀ r ∈ rs, r.length ≤ 60 * 2 ^ (i + 1) - 20 ∧ PyData.strOk r = true := fun r hr => ⟨by have := (hB.2.2 r hr).1; omega, (hB.2.2 r hr).2⟩
      have ltk : (rs.take n).length = n := by rw [List.length_take]; omega
      have ldr : ∀ k, (rs.drop (n + k)).length = rs.length - n - k := fun k => by rw [List.length_drop]; omega
      have sz : ∀ k : Nat, k ≤ 5000 → k ≤ sizeLine := fun k h => by rw [sizeLine_eq]; omega
      have fin : ∀ (c' : Addr) (H' : Hp) (rs' : List Str) (b2 b3 b4 b5 : Option V), ExP p H4 H' → Pot H' p → H' c' = some (.lst (rs'.map V.str)) → c' ≠ p → rs' ≠ [] → rs'.length ≤ 18 + (i + 1) → (∀ r ∈ rs', r.length ≤ 60 * 2 ^ (i + 1) - 20 ∧ PyData.strOk r = true) →
          ∃ (c : Addr) (rs : List Str) (a2 a3 a4 a5 : Option V), ExP p H H' ∧ Pot H' p ∧ H' c = some (.lst (rs.map V.str)) ∧ c ≠ p ∧ RowsB (18 + (i + 1)) (60 * 2 ^ (i + 1) - 20) rs ∧ [some (.ref p), some (.ref c'), b2, b3, b4, b5] = [some (.ref p), some (.ref c), a2, a3, a4, a5] :=
        fun c' H' rs' b2 b3 b4 b5 e pp hc' cp' ne ln al => ⟨c', rs', b2, b3, b4, b5, e04.trans e, pp, hc', cp', ⟨ne, ln, al⟩, rfl⟩
      refine ⟨_, rfl, rfl, _, rfl, ?_⟩
      refine iteB (fun z0 => ⟨_, rfl, c, _, rfl, .inl (SqL.of hc4), _, _, rfl, rfl, _, rfl, iteB (fun z1 => ?_) (fun z1 => ?_)⟩) (fun z0 => ?_)
      · have two : 1 < rs.length := by
          have := of_decide_eq_true z1
          omega
        refine ⟨_, rfl, _, rfl, _, rfl, c, _, rfl, SqL.of hc4, fun s1 hs1 => ?_⟩
        rw [lo]
        have eA : Ex H4 (upd H4 s1 (.lst ((rs.take n).map V.str))) := ((Ex.refl _).more hs1)
        have hA := upd_same (H := H4) (a := s1) (o := .lst ((rs.take n).map V.str))
        generalize upd H4 s1 (.lst ((rs.take n).map V.str)) = HA at eA hA ⊢
        have hcA := eA _ _ hc4
        refine ⟨_, rfl, _, rfl, _, _, rfl, rfl, _, rfl, c, _, rfl, SqL.of hcA, fun s3 hs3 => ?_⟩
        rw [show ((n : Int) + 1) = (n : Int) + ((1 : Nat) : Int) from rfl, hi' 1]
        have eD : Ex HA (upd HA s3 (.lst ((rs.drop (n + 1)).map V.str))) := (Ex.refl _).more hs3
        refine ⟨s1, s3, _, _, rfl, rfl, eD _ _ hA, upd_same, sz _ (by rw [List.length_map, List.length_map, ltk, ldr]; omega), fun c2 hc2 => ?_⟩
        have e9 := (eA.trans eD).more (o := .lst ((rs.take n).map V.str ++ (rs.drop (n + 1)).map V.str)) hc2
        refine fin c2 _ (rs.take n ++ rs.drop (n + 1)) _ _ _ _ e9.p (p4.ex e9) (by rw [upd_same, List.map_append]) ((p4.ex (eA.trans eD)).ne hc2).symm ?_ ?_ ?_
        · intro z
          have := congrArg List.length z
          rw [List.length_append, ltk, ldr] at this
          have : n + (rs.length - n - 1) = 0 := this
          omega
        · rw [List.length_append, ltk, ldr]
          omega
        · intro r hr
          exact inr r ((List.mem_append.mp hr).elim List.mem_of_mem_take List.mem_of_mem_drop)
      all_goals
        refine ⟨_, rfl, rfl, _, rfl, iteB (fun z2 => ?_) (fun z2 => ?_)⟩
        · refine ⟨_, rfl, _, rfl, _, rfl, c, _, rfl, SqL.of hc4, fun s1 hs1 => ?_⟩
          rw [lo]
          have eA : Ex H4 (upd H4 s1 (.lst ((rs.take n).map V.str))) := ((Ex.refl _).more hs1)
          have hA := upd_same (H := H4) (a := s1) (o := .lst ((rs.take n).map V.str))
          generalize upd H4 s1 (.lst ((rs.take n).map V.str)) = HA at eA hA ⊢
          have hcA := eA _ _ hc4
          refine ⟨_, rfl, _, rfl, c, _, _, V.str rs[n], rfl, rfl, SqL.of hcA, hat, by show 1 ≤ sizeLine; decide, fun xq hxq => ?_⟩
          have eB : Ex HA (upd HA xq (.lst [V.str rs[n]])) := (Ex.refl _).more hxq
          refine ⟨s1, xq, _, _, rfl, rfl, eB _ _ hA, upd_same, sz _ (by rw [List.length_map, ltk]; show n + 1 ≤ _; omega), fun c1 hc1 => ?_⟩
          have eC : Ex HA (upd (upd HA xq (.lst [V.str rs[n]])) c1 (.lst ((rs.take n).map V.str ++ [V.str rs[n]]))) := eB.more hc1
          have hC := upd_same (H := upd HA xq (.lst [V.str rs[n]])) (a := c1) (o := .lst ((rs.take n).map V.str ++ [V.str rs[n]]))
          generalize upd (upd HA xq (.lst [V.str rs[n]])) c1 (.lst ((rs.take n).map V.str ++ [V.str rs[n]])) = HC at eC hC ⊢
          have hcC := eC _ _ hcA
          refine ⟨_, rfl, _, rfl, _, rfl, c, _, rfl, SqL.of hcC, fun s3 hs3 => ?_⟩
          rw [hi0]
          have eD : Ex HC (upd HC s3 (.lst ((rs.drop n).map V.str))) := (Ex.refl _).more hs3
          refine ⟨c1, s3, _, _, rfl, rfl, eD _ _ hC, upd_same, sz _ (by rw [List.length_append, List.length_map, List.length_map, ltk]; have := ldr 0; rw [Nat.add_zero] at this; rw [this]; show n + 1 + _ ≤ _; omega), fun c2 hc2 => ?_⟩
          have e9 := ((eA.trans eC).trans eD).more (o := .lst ((rs.take n).map V.str ++ [V.str rs[n]] ++ (rs.drop n).map V.str)) hc2
          refine fin c2 _ (rs.take n ++ [rs[n]] ++ rs.drop n) _ _ _ _ e9.p (p4.ex e9) (by rw [upd_same, List.map_append, List.map_append]; rfl) ((p4.ex ((eA.trans eC).trans eD)).ne hc2).symm (by intro z; simp only [List.append_eq_nil_iff, List.cons_ne_self, reduceCtorEq, and_false, false_and] at z) ?_ ?_
          · rw [List.length_append, List.length_append, ltk]
            have := ldr 0
            rw [Nat.add_zero] at this
            rw [this]
            show n + 1 + _ ≤ _
            omega
          · intro r hr
            rcases List.mem_append.mp hr with h | h
            · rcases List.mem_append.mp h with h | h
              · exact inr r (List.mem_of_mem_take h)
              · rw [List.mem_singleton.mp h]
                exact inr _ (List.getElem_mem hn)
            · exact inr r (List.mem_of_mem_drop h)
        refine ⟨_, rfl, rfl, _, rfl, iteB (fun z3 => ?_) (fun z3 => ?_)⟩
        · refine ⟨_, rfl, _, rfl, _, rfl, c, _, rfl, SqL.of hc4, fun s1 hs1 => ?_⟩
          rw [lo]
          have eA : Ex H4 (upd H4 s1 (.lst ((rs.take n).map V.str))) := ((Ex.refl _).more hs1)
          have hA := upd_same (H := H4) (a := s1) (o := .lst ((rs.take n).map V.str))
          generalize upd H4 s1 (.lst ((rs.take n).map V.str)) = HA at eA hA ⊢
          have hcA := eA _ _ hc4
          refine ⟨_, rfl, _, rfl, _, _, rfl, rfl, _, rfl, _, rfl, _, _, rfl, rfl, _, rfl, c, _, rfl, SqL.of hcA, fun s2 hs2 => ?_⟩
          rw [m2]
          have l2 : ((rs.drop (n + 1)).take 1).length ≤ rs.length - n - 1 ∧ ((rs.drop (n + 1)).take 1).length ≤ 1 := by
            rw [List.length_take, ldr]
            omega
          have i2' : ∀ r ∈ (rs.drop (n + 1)).take 1, r ∈ rs := fun r h => List.mem_of_mem_drop (List.mem_of_mem_take h)
          generalize (rs.drop (n + 1)).take 1 = M2 at l2 i2' ⊢
          have eB : Ex HA (upd HA s2 (.lst (M2.map V.str))) := (Ex.refl _).more hs2
          refine ⟨s1, s2, _, _, rfl, rfl, eB _ _ hA, upd_same, sz _ (by rw [List.length_map, List.length_map, ltk]; omega), fun lt hlt => ?_⟩
          have eC : Ex HA (upd (upd HA s2 (.lst (M2.map V.str))) lt (.lst ((rs.take n).map V.str ++ M2.map V.str))) := eB.more hlt
          have hC := upd_same (H := upd HA s2 (.lst (M2.map V.str))) (a := lt) (o := .lst ((rs.take n).map V.str ++ M2.map V.str))
          have hHC : ∃ HC : Hp, HC = upd (upd HA s2 (.lst (M2.map V.str))) lt (.lst ((rs.take n).map V.str ++ M2.map V.str)) := ⟨_, rfl⟩
          obtain ⟨HC, hHC⟩ := hHC
          rw [← hHC] at eC hC ⊢
          clear hHC
          have hcC := eC _ _ hcA
          refine ⟨_, rfl, _, rfl, _, rfl, _, rfl, _, rfl, _, _, rfl, rfl, _, rfl, c, _, rfl, SqL.of hcC, fun s3 hs3 => ?_⟩
          rw [m1]
          have l1 : ((rs.drop n).take 1).length ≤ 1 := by
            rw [List.length_take]
            omega
          have i1' : ∀ r ∈ (rs.drop n).take 1, r ∈ rs := fun r h => List.mem_of_mem_drop (List.mem_of_mem_take h)
          have n1' : (rs.drop n).take 1 ≠ [] := by
            rw [List.drop_eq_getElem_cons hn]
            exact List.cons_ne_nil _ _
          generalize (rs.drop n).take 1 = M1 at l1 i1' n1' ⊢
          have eD : Ex HC (upd HC s3 (.lst (M1.map V.str))) := (Ex.refl _).more hs3
          refine ⟨lt, s3, _, _, rfl, rfl, eD _ _ hC, upd_same, sz _ (by rw [List.length_append, List.length_map, List.length_map, List.length_map, ltk]; omega), fun c1 hc1 => ?_⟩
          have eE : Ex HC (upd (upd HC s3 (.lst (M1.map V.str))) c1 (.lst ((rs.take n).map V.str ++ M2.map V.str ++ M1.map V.str))) := eD.more hc1
          have hE := upd_same (H := upd HC s3 (.lst (M1.map V.str))) (a := c1) (o := .lst ((rs.take n).map V.str ++ M2.map V.str ++ M1.map V.str))
          generalize upd (upd HC s3 (.lst (M1.map V.str))) c1 (.lst ((rs.take n).map V.str ++ M2.map V.str ++ M1.map V.str)) = HE at eE hE ⊢
          have hcE := eE _ _ hcC
          refine ⟨_, rfl, _, rfl, _, _, rfl, rfl, _, rfl, c, _, rfl, SqL.of hcE, fun s4 hs4 => ?_⟩
          rw [show ((n : Int) + 2) = (n : Int) + ((2 : Nat) : Int) from rfl, hi' 2]
          have eF : Ex HE (upd HE s4 (.lst ((rs.drop (n + 2)).map V.str))) := (Ex.refl _).more hs4
          refine ⟨c1, s4, _, _, rfl, rfl, eF _ _ hE, upd_same, sz _ (by rw [List.length_append, List.length_append, List.length_map, List.length_map, List.length_map, List.length_map, ltk, ldr]; omega), fun c2 hc2 => ?_⟩
          have e8 := ((eA.trans eC).trans eE).trans eF
          have e9 := e8.more (o := .lst ((rs.take n).map V.str ++ M2.map V.str ++ M1.map V.str ++ (rs.drop (n + 2)).map V.str)) hc2
          refine fin c2 _ (rs.take n ++ M2 ++ M1 ++ rs.drop (n + 2)) _ _ _ _ e9.p (p4.ex e9) (by rw [upd_same, List.map_append, List.map_append, List.map_append]) ((p4.ex e8).ne hc2).symm (by simp [n1']) ?_ ?_
          · rw [List.length_append, List.length_append, List.length_append, ltk, ldr]
            omega
          · intro r hr
            rcases List.mem_append.mp hr with h | h
            · rcases List.mem_append.mp h with h | h
              · rcases List.mem_append.mp h with h | h
                · exact inr r (List.mem_of_mem_take h)
                · exact inr r (i2' r h)
              · exact inr r (i1' r h)
            · exact inr r (List.mem_of_mem_drop h)
        refine ⟨_, rfl, rfl, _, rfl, iteB (fun z4 => ?_) (fun z4 => ?_)⟩
        · refine ⟨_, rfl, _, rfl, _, rfl, c, _, rfl, SqL.of hc4, fun s1 hs1 => ?_⟩
          rw [lo]
          have eA : Ex H4 (upd H4 s1 (.lst ((rs.take n).map V.str))) := ((Ex.refl _).more hs1)
          have hA := upd_same (H := H4) (a := s1) (o := .lst ((rs.take n).map V.str))
          generalize upd H4 s1 (.lst ((rs.take n).map V.str)) = HA at eA hA ⊢
          have hcA := eA _ _ hc4
          refine ⟨by show 1 ≤ sizeLine; decide, fun xq hxq => ?_⟩
          have eB : Ex HA (upd HA xq (.lst [V.str (Str.ofString "")])) := (Ex.refl _).more hxq
          refine ⟨s1, xq, _, _, rfl, rfl, eB _ _ hA, upd_same, sz _ (by rw [List.length_map, ltk]; show n + 1 ≤ _; omega), fun c1 hc1 => ?_⟩
          have eC : Ex HA (upd (upd HA xq (.lst [V.str (Str.ofString "")])) c1 (.lst ((rs.take n).map V.str ++ [V.str (Str.ofString "")]))) := eB.more hc1
          have hC := upd_same (H := upd HA xq (.lst [V.str (Str.ofString "")])) (a := c1) (o := .lst ((rs.take n).map V.str ++ [V.str (Str.ofString "")]))
          generalize upd (upd HA xq (.lst [V.str (Str.ofString "")])) c1 (.lst ((rs.take n).map V.str ++ [V.str (Str.ofString "")])) = HC at eC hC ⊢
          have hcC := eC _ _ hcA
          refine ⟨_, rfl, _, rfl, _, rfl, c, _, rfl, SqL.of hcC, fun s3 hs3 => ?_⟩
          rw [hi0]
          have eD : Ex HC (upd HC s3 (.lst ((rs.drop n).map V.str))) := (Ex.refl _).more hs3
          refine ⟨c1, s3, _, _, rfl, rfl, eD _ _ hC, upd_same, sz _ (by rw [List.length_append, List.length_map, List.length_map, ltk]; have := ldr 0; rw [Nat.add_zero] at this; rw [this]; show n + 1 + _ ≤ _; omega), fun c2 hc2 => ?_⟩
          have e9 := ((eA.trans eC).trans eD).more (o := .lst ((rs.take n).map V.str ++ [V.str (Str.ofString "")] ++ (rs.drop n).map V.str)) hc2
          refine fin c2 _ (rs.take n ++ [Str.ofString ""] ++ rs.drop n) _ _ _ _ e9.p (p4.ex e9) (by rw [upd_same, List.map_append, List.map_append]; rfl) ((p4.ex ((eA.trans eC).trans eD)).ne hc2).symm (by intro z; simp only [List.append_eq_nil_iff, List.cons_ne_self, reduceCtorEq, and_false, false_and] at z) ?_ ?_
          · rw [List.length_append, List.length_append, ltk]
            have := ldr 0
            rw [Nat.add_zero] at this
            rw [this]
            show n + 1 + _ ≤ _
            omega
          · intro r hr
            rcases List.mem_append.mp hr with h | h
            · rcases List.mem_append.mp h with h | h
              · exact inr r (List.mem_of_mem_take h)
              · rw [List.mem_singleton.mp h]
                exact ⟨Nat.zero_le _, by decide +kernel⟩
            · exact inr r (List.mem_of_mem_drop h)
        refine ⟨_, rfl, _, rfl, _, rfl, c, _, rfl, SqL.of hc4, fun s1 hs1 => ?_⟩
        rw [lo]
        have eA : Ex H4 (upd H4 s1 (.lst ((rs.take n).map V.str))) := ((Ex.refl _).more hs1)
        have hA := upd_same (H := H4) (a := s1) (o := .lst ((rs.take n).map V.str))
        have s1p := (p4.ne hs1).symm
        generalize upd H4 s1 (.lst ((rs.take n).map V.str)) = HA at eA hA ⊢
        have hcA := eA _ _ hc4
        have okn := hB.2.2 _ (List.getElem_mem hn)
        refine ⟨_, rfl, _, rfl, _, rfl, c, _, _, V.str rs[n], rfl, rfl, SqL.of hcA, hat, p, rs[n], rfl, p4.ex eA, by omega, okn.2, fun HB y eB0 pB yl yok => ⟨by show 1 ≤ sizeLine; decide, fun xq hxq => ?_⟩⟩
        have hAB := eB0 _ _ s1p hA
        have hcB := eB0 _ _ cp hcA
        have e0B := eA.p.trans eB0
        have eB : Ex HB (upd HB xq (.lst [V.str y])) := (Ex.refl _).more hxq
        refine ⟨s1, xq, _, _, rfl, rfl, eB _ _ hAB, upd_same, sz _ (by rw [List.length_map, ltk]; show n + 1 ≤ _; omega), fun c1 hc1 => ?_⟩
        have eC : Ex HB (upd (upd HB xq (.lst [V.str y])) c1 (.lst ((rs.take n).map V.str ++ [V.str y]))) := eB.more hc1
        have hC := upd_same (H := upd HB xq (.lst [V.str y])) (a := c1) (o := .lst ((rs.take n).map V.str ++ [V.str y]))
        generalize upd (upd HB xq (.lst [V.str y])) c1 (.lst ((rs.take n).map V.str ++ [V.str y])) = HC at eC hC ⊢
        have hcC := eC _ _ hcB
        refine ⟨_, rfl, _, rfl, _, _, rfl, rfl, _, rfl, c, _, rfl, SqL.of hcC, fun s3 hs3 => ?_⟩
        rw [show ((n : Int) + 1) = (n : Int) + ((1 : Nat) : Int) from rfl, hi' 1]
        have eD : Ex HC (upd HC s3 (.lst ((rs.drop (n + 1)).map V.str))) := (Ex.refl _).more hs3
        refine ⟨c1, s3, _, _, rfl, rfl, eD _ _ hC, upd_same, sz _ (by rw [List.length_append, List.length_map, List.length_map, ltk, ldr]; show n + 1 + _ ≤ _; omega), fun c2 hc2 => ?_⟩
        have e8 := eC.trans eD
        have e9 := e8.more (o := .lst ((rs.take n).map V.str ++ [V.str y] ++ (rs.drop (n + 1)).map V.str)) hc2
        refine fin c2 _ (rs.take n ++ [y] ++ rs.drop (n + 1)) _ _ _ _ (e0B.trans e9.p) (pB.ex e9) (by rw [upd_same, List.map_append, List.map_append]; rfl) ((pB.ex e8).ne hc2).symm (by intro z; simp only [List.append_eq_nil_iff, List.cons_ne_self, reduceCtorEq, and_false, false_and] at z) ?_ ?_
        · rw [List.length_append, List.length_append, ltk, ldr]
          show n + 1 + _ ≤ _
          omega
        · intro r hr
          rcases List.mem_append.mp hr with h | h
          · rcases List.mem_append.mp h with h | h
            · exact inr r (List.mem_of_mem_take h)
            · rw [List.mem_singleton.mp h]
              exact ⟨by omega, yok⟩
          · exact inr r (List.mem_of_mem_drop h)
    · obtain ⟨c, rs, a2, a3, a4, a5, ec, pc, hc, cp, hB, rfl⟩ := hP
      refine ⟨_, rfl, q Hc c rs ec pc hc cp (hB.mono (by omega) ?_)⟩
      have : N = 0 ∨ N = 1 ∨ N = 2 := by omega
      rcases this with h | h | h <;> subst h <;> decide
end
end U
/-! ## the law: _law_told -/
namespace U
open PySem PySem.Spec PyProof.Rows L2 StX TL
section
variable {W : Wd}
def toldOf (z : Str) : Str × Int := match readText z with
  | .error n => (Str.empty, n)
  | .ok d => (textOf d.ks (rdConv d), 0)
def sp_law_told (K : Fg) : Sp := fun vs H Q _ => ∃ v, vs = [v] ∧ ((∃ z, v = .str z ∧ z.length ≤ 900000 ∧ PyData.strOk z = true ∧ ∀ H' l, Ex H H' → H l = none → H' l = some (.lst [.str (toldOf z).1, .int (toldOf z).2]) → Q (.ref l) H') ∨
  ∃ c, TyX K H v c ∧ PySem.W.kitOne K c (.type "str") = some false ∧ ∀ H' l, Ex H H' → H l = none → H' l = some (.lst [.str Str.empty, .int 0]) → Q (.ref l) H')
theorem sc_law_told : FnScope ["_law_page", "e"] ["_law_page"] (defScope s__law_told) := ⟨rfl, rfl, rfl, by decide +kernel, rfl, by decide +kernel, by decide +kernel⟩
theorem ok_law_told (T : Tx W) : Fn W CX0 13 (ga W.K "_law_told") ["_law_page"] (sp_law_told W.K) := by
  obtain ⟨fd, F⟩ := T.d__law_told
  refine ⟨⟨fd, ?_, F.bindsN fun _ _ _ _ _ _ us hl => match us, hl with | [_], _ => rfl⟩, F.kp⟩
  refine F.ok sc_law_told (fun vs H Q E h => ?_) (fun cdv A outer s H vs Q E hr h => ?_)
  · obtain ⟨v, rfl, _⟩ := h
    rfl
  · obtain ⟨v, rfl, h⟩ := h
    refine ⟨_, PSs.nox (pss_one (ps_try_as (i := 1) (Wout := fun _ _ _ _ => False) rfl rfl sc_law_told.nd rfl rfl ⟨rfl, by decide, Or.inl T.g_InvalidText⟩ takes0
      (fun Wx pn xe tk _ => pss_one (ps_ret (pe_lst (pa_cons (u_call (ok_text_of T) T.g_text_of hr (pa_cons (u_callS (ok_read T) T.g_read_convention hr tk (pa_cons (pv 0) pa_nil)) pa_nil)) (pa_cons pe_int pa_nil)))))
      (fun a oe cls d pn hz hf => pss_one (ps_ret (pe_lst (pa_cons pe_str (pa_cons (pe_ifExp (PW.pt (pw_and (pt_val (pe_callB (call_isE2 T.exc_InvalidText hz hf) (by rfl) T.f_isinstance (by decide +kernel) (pa_cons (pv 1) (pa_cons (pe_glob (v := .ref (ga W.K "CallError")) (by rfl) T.g_CallError rfl) pa_nil))))
        (pw_and1 (pt_val (pe_callB (call_isE2 T.exc_InvalidText hz hf) (by rfl) T.f_isinstance (by decide +kernel) (pa_cons (pv 1) (pa_cons (pe_bltn (v := .ty "ValueError") (by rfl) T.f_ValueError (by decide +kernel) rfl) pa_nil)))))))
        (pe_xf (xf_of T.exc_InvalidText) T.na_InvalidText hz hf (pv 1)) pe_str) pa_nil))))))), ?_⟩
    rcases h with ⟨z, rfl, hz, zok, q⟩ | ⟨c, tc, kc, q⟩
    · refine ⟨_, rfl, .str z, rfl, .inl ⟨z, rfl, hz, zok, fun n hn H' d e nd hd => ⟨true, T.exm_InvalidText_InvalidText, fun _ a ha => ?_, fun q => nomatch q⟩, fun d hd H' x b as e cv => ?_⟩⟩
      · refine ⟨_, rfl, .ref (ga W.K "CallError"), .ref (ga W.K "CallError"), true, d, _, rfl, rfl, rfl, hd, fun u hu => hu, T.ki_CallError, _, rfl, ?_⟩
        refine iteB (fun _ => ?_) (fun z => by cases z)
        refine ⟨_, rfl, .ty "ValueError", .type "ValueError", true, d, _, rfl, rfl, rfl, hd, fun u hu => hu, T.ki_ValueError, _, rfl, ?_⟩
        refine iteB (fun _ => ?_) (fun z => by cases z)
        refine ⟨_, rfl, rfl, rfl, d, _, .int n, rfl, hd, rfl, by show 2 ≤ sizeLine; decide, fun l hl => q _ l (e.more hl) (e.none hl) ?_⟩
        have ht : toldOf z = (Str.empty, (n : Int)) := by
          unfold toldOf
          rw [hn]
        rw [ht]
        exact upd_same
      · refine ⟨x, b, as, _, _, rfl, cv, fun H2 e2 => ⟨by show 2 ≤ sizeLine; decide, fun l hl => q _ l ((e.trans e2).more hl) ((e.trans e2).none hl) ?_⟩⟩
        have ht : toldOf z = (textOf d.ks (rdConv d), 0) := by
          unfold toldOf
          rw [hd]
        rw [ht]
        exact upd_same
    · refine ⟨_, rfl, v, rfl, .inr ⟨c, tc, kc, fun H' d e nd hd => ⟨true, T.exm_InvalidText_InvalidText, fun _ a ha => ?_, fun q => nomatch q⟩⟩⟩
      refine ⟨_, rfl, .ref (ga W.K "CallError"), .ref (ga W.K "CallError"), true, d, _, rfl, rfl, rfl, hd, fun u hu => hu, T.ki_CallError, _, rfl, ?_⟩
      refine iteB (fun _ => ?_) (fun z => by cases z)
      refine ⟨_, rfl, .ty "ValueError", .type "ValueError", true, d, _, rfl, rfl, rfl, hd, fun u hu => hu, T.ki_ValueError, _, rfl, ?_⟩
      refine iteB (fun _ => ?_) (fun z => by cases z)
      exact ⟨_, rfl, rfl, rfl, d, _, .int 0, rfl, hd, rfl, by show 2 ≤ sizeLine; decide, fun l hl => q _ l (e.more hl) (e.none hl) upd_same⟩
end
end U
/-! ## the law: _law_is_told -/
namespace U
open PySem PySem.Spec PyProof.Rows L2 StX TL
section
variable {W : Wd}
theorem shown_le {a : Str} {i : Int} (h : a.length ≤ 900000) (ok : PyData.strOk a = true) (h0 : 0 ≤ i) (h1 : i < 10000000) : (shownTI a i).length ≤ sizeLine := by
  have r := StrLaws.reprText_len a (fun c hc => by
    have := strOk_tl.mp ok c hc
    have : (0x110000 : Nat) < 16 ^ 8 := by decide
    omega)
  have t := toString_length_le h0 (k := 7) (by decide) (by omega)
  have e : shownTI a i = ((((Str.ofString "[" ++ (Str.ofString "")) ++ reprText a) ++ Str.ofString ", ") ++ Str.ofString (toString i)) ++ Str.ofString "]" := rfl
  rw [e, str_len, str_len, str_len, str_len, str_len, sizeLine_eq]
  have e1 : (Str.ofString "[").length = 1 := rfl
  have e2 : (Str.ofString "").length = 0 := rfl
  have e3 : (Str.ofString ", ").length = 2 := rfl
  have e4 : (Str.ofString "]").length = 1 := rfl
  omega
/-- what the law wants told of a page -/
def Told (z : Str) : Prop := toldOf z = (if lawWrong z = 0 then z else Str.empty, (lawWrong z : Int))
def sp_law_is_told : Sp := fun vs H Q _ => ∃ z, vs = [.str z] ∧ z.length ≤ 900000 ∧ PyData.strOk z = true ∧ Told z ∧ lawWrong z ≤ 1000000 ∧ ∀ H', Ex H H' → Q (.bl true) H'
theorem sc_law_is_told : FnScope ["_law_page", "_law_due"] ["_law_page"] (defScope s__law_is_told) := ⟨rfl, rfl, rfl, by decide +kernel, rfl, by decide +kernel, by decide +kernel⟩
theorem ok_law_is_told (T : Tx W) : ∃ fd, FnG W.P W.w W.K W.mg W.base CX0 14 (ga W.K "_law_is_told") fd ["_law_page"] sp_law_is_told ∧ Binds W.K fd ["_law_page"] [] := by
  obtain ⟨fd, F⟩ := T.d__law_is_told
  refine ⟨fd, ?_, F.bindsN fun _ _ _ _ _ _ us hl => match us, hl with | [_], _ => rfl⟩
  refine okG F sc_law_is_told (fun vs H Q E h => ?_) (fun cdv A outer s H vs Q E hA hr h => ?_)
  · obtain ⟨z, rfl, _⟩ := h
    rfl
  · obtain ⟨z, rfl, hz, zok, ht, hn, q⟩ := h
    refine ⟨_, PSs.nox (pss_cons (ps_set (i := 1) sc_law_is_told.nd rfl (Or.inl rfl) (u_call (ok_law_wrong T) T.g__law_wrong hr (pa_cons (pv 0) pa_nil)))
      (pss_one (ps_ret (pe_cmpR op_eq (pe_callB (call_reprTI (by exact hA) (hr.mono (by decide))) (by rfl) T.f_repr (by decide +kernel) (pa_cons (u_call (ok_law_told T) T.g__law_told hr (pa_cons (pv 0) pa_nil)) pa_nil))
        (pe_callB (call_reprTI (by exact hA) (hr.mono (by decide))) (by rfl) T.f_repr (by decide +kernel) (pa_cons (pe_lst (pa_cons (pe_ifExp (pt_cmpR op_eq (pv 1) pe_int (nomark _)) (pv 0) pe_str) (pa_cons (pv 1) pa_nil))) pa_nil)) (nomark _))))), ?_⟩
    have hw0 : (0 : Int) ≤ (lawWrong z : Int) := by omega
    have hlog : ((lawWrong z : Nat) : Int).natAbs.log2 < 1920 := by
      rw [Int.natAbs_natCast]
      have h1 : Nat.log2 (lawWrong z) ≤ lawWrong z := Nat.log2_le_self _
      by_cases h0 : lawWrong z = 0
      · rw [h0]
        decide
      · refine (Nat.log2_lt h0).mpr (Nat.lt_of_le_of_lt hn ?_)
        exact Nat.lt_of_lt_of_le (show 1000000 < 2 ^ 20 by decide) (Nat.pow_le_pow_right (by decide) (by decide))
    have ht1 : (toldOf z).1 = if lawWrong z = 0 then z else Str.empty := congrArg Prod.fst ht
    have ht2 : (toldOf z).2 = (lawWrong z : Int) := congrArg Prod.snd ht
    have hY : (if (lawWrong z) = 0 then z else Str.empty).length ≤ 900000 ∧ PyData.strOk (if (lawWrong z) = 0 then z else Str.empty) = true := by
      split
      · exact ⟨hz, zok⟩
      · exact ⟨Nat.zero_le _, by decide +kernel⟩
    have sl := shown_le (i := (lawWrong z : Int)) hY.1 hY.2 (by omega) (by omega)
    refine ⟨_, rfl, z, rfl, hz, zok, fun H1 e1 => ⟨_, rfl, .str z, rfl, .inl ⟨z, rfl, hz, zok, fun H2 l e2 nl hl => ?_⟩⟩⟩
    rw [ht1, ht2] at hl
    refine ⟨l, _, _, rfl, SqL.of hl, hlog, sl, ?_⟩
    have fin : ∀ H3, Ex H H3 → ∀ y, y = (if (lawWrong z) = 0 then z else Str.empty) → Q (.bl (decide (V.str (shownTI (if (lawWrong z) = 0 then z else Str.empty) (lawWrong z)) = V.str (shownTI y (lawWrong z))))) H3 := fun H3 e y hy => by
      subst hy
      rw [decide_eq_true rfl]
      exact q _ e
    refine ⟨_, rfl, rfl, _, rfl, iteB (fun h => ?_) (fun h => ?_)⟩
    · rw [eI] at h
      have h0 : (lawWrong z) = 0 := by
        have := of_decide_eq_true h
        omega
      refine ⟨_, rfl, _, rfl, by show 2 ≤ sizeLine; decide, fun l2 h2 => ⟨l2, z, (lawWrong z), rfl, SqL.of upd_same, hlog, ?_, rfl, fin _ ((e1.trans e2).more h2) z (by rw [if_pos h0])⟩⟩
      rw [if_pos h0] at sl
      exact sl
    · rw [eI] at h
      have h0 : ¬ (lawWrong z) = 0 := by
        have := of_decide_eq_false h
        omega
      refine ⟨_, rfl, by show 2 ≤ sizeLine; decide, fun l2 h2 => ⟨l2, Str.empty, (lawWrong z), rfl, SqL.of upd_same, hlog, ?_, rfl, fin _ ((e1.trans e2).more h2) Str.empty (by rw [if_neg h0])⟩⟩
      rw [if_neg h0] at sl
      exact sl
end
end U
/-! ## the plain law: the reading and the law's own count of lines agree -/
namespace U
open PySem PySem.Spec PyProof.Rows L2 StX TL
/-! ### decimals -/
theorem num_back : ∀ n : Nat, n < 1000 → isDec (numS (n : Int)) = true ∧ (numS (n : Int)).length ≤ 3 ∧ valT (numS (n : Int)) = (n : Int) := by decide +kernel
theorem num1 : ∀ a, a < 10 → numS (valT ⟨#[a + 48]⟩) = ⟨#[a + 48]⟩ ∧ 0 ≤ valT ⟨#[a + 48]⟩ ∧ valT ⟨#[a + 48]⟩ < 1000 := by decide +kernel
theorem num2 : ∀ a, a < 10 → ∀ b, b < 10 → a ≠ 0 → numS (valT ⟨#[a + 48, b + 48]⟩) = ⟨#[a + 48, b + 48]⟩ ∧ 0 ≤ valT ⟨#[a + 48, b + 48]⟩ ∧ valT ⟨#[a + 48, b + 48]⟩ < 1000 := by decide +kernel
theorem num3 : ∀ a, a < 10 → ∀ b, b < 10 → ∀ c, c < 10 → a ≠ 0 → numS (valT ⟨#[a + 48, b + 48, c + 48]⟩) = ⟨#[a + 48, b + 48, c + 48]⟩ ∧ 0 ≤ valT ⟨#[a + 48, b + 48, c + 48]⟩ ∧ valT ⟨#[a + 48, b + 48, c + 48]⟩ < 1000 := by decide +kernel
theorem dec_num {z : Str} (h : isDec z = true) (hl : z.length ≤ 3) : z = numS (valT z) ∧ 0 ≤ valT z ∧ valT z < 1000 := by
  obtain ⟨h1, h2⟩ := isDec_all h
  have lead : z ≠ Str.ofString "0" → z.cps.getD 0 0 ≠ 48 := fun ne => by
    unfold isDec at h
    rw [if_neg h2] at h
    have h3 := (Bool.and_eq_true_iff.mp h).2
    rcases Bool.or_eq_true_iff.mp h3 with q | q
    · exact absurd (of_decide_eq_true q) ne
    · exact of_decide_eq_true q
  have dig : ∀ c ∈ z.cps.toList, 48 ≤ c ∧ c ≤ 57 := fun c hc => digits_in (List.all_eq_true.mp h1 c hc)
  obtain ⟨⟨l⟩⟩ := z
  have hl : l.length ≤ 3 := hl
  have dig : ∀ c ∈ l, 48 ≤ c ∧ c ≤ 57 := dig
  match l, hl with
  | [], _ => exact absurd rfl h2
  | [a], _ =>
    obtain ⟨a1, a2⟩ := dig a (by simp)
    obtain ⟨x, rfl⟩ : ∃ x, a = x + 48 := ⟨a - 48, by omega⟩
    obtain ⟨e, l1, l2⟩ := num1 x (by omega)
    exact ⟨e.symm, l1, l2⟩
  | [a, b], _ =>
    obtain ⟨a1, a2⟩ := dig a (by simp)
    obtain ⟨b1, b2⟩ := dig b (by simp)
    obtain ⟨x, rfl⟩ : ∃ x, a = x + 48 := ⟨a - 48, by omega⟩
    obtain ⟨y, rfl⟩ : ∃ x, b = x + 48 := ⟨b - 48, by omega⟩
    have ld : x + 48 ≠ 48 := lead (fun e => by
      have := congrArg Str.length e
      cases this)
    obtain ⟨e, l1, l2⟩ := num2 x (by omega) y (by omega) (by omega)
    exact ⟨e.symm, l1, l2⟩
  | [a, b, c], _ =>
    obtain ⟨a1, a2⟩ := dig a (by simp)
    obtain ⟨b1, b2⟩ := dig b (by simp)
    obtain ⟨c1, c2⟩ := dig c (by simp)
    obtain ⟨x, rfl⟩ : ∃ x, a = x + 48 := ⟨a - 48, by omega⟩
    obtain ⟨y, rfl⟩ : ∃ x, b = x + 48 := ⟨b - 48, by omega⟩
    obtain ⟨w, rfl⟩ : ∃ x, c = x + 48 := ⟨c - 48, by omega⟩
    have ld : x + 48 ≠ 48 := lead (fun e => by
      have := congrArg Str.length e
      cases this)
    obtain ⟨e, l1, l2⟩ := num3 x (by omega) y (by omega) w (by omega) (by omega)
    exact ⟨e.symm, l1, l2⟩
  | _ :: _ :: _ :: _ :: _, h => simp at h
theorem num_facts {i : Int} (h0 : 0 ≤ i) (h1 : i < 1000) : isDec (numS i) = true ∧ (numS i).length ≤ 3 ∧ valT (numS i) = i := by
  have z := num_back i.toNat (by omega)
  rwa [Int.toNat_of_nonneg h0] at z
/-- the word says i -/
theorem numIn_iff {z : Str} {i : Int} : numIn z = .int i ↔ z = numS i ∧ 0 ≤ i ∧ i < 1000 := by
  unfold numIn
  constructor
  · intro h
    by_cases q : isDec z = true ∧ z.length ≤ 3
    · rw [if_pos q] at h
      injection h with h
      obtain ⟨e, l1, l2⟩ := dec_num q.1 q.2
      rw [h] at e l1 l2
      exact ⟨e, l1, l2⟩
    · rw [if_neg q] at h
      cases h
  · rintro ⟨rfl, h0, h1⟩
    obtain ⟨a, b, c⟩ := num_facts h0 h1
    rw [if_pos ⟨a, b⟩, c]
theorem numIn_numS {i : Int} (h0 : 0 ≤ i) (h1 : i < 1000) : numIn (numS i) = .int i := numIn_iff.mpr ⟨rfl, h0, h1⟩
theorem countIn_iff {z : Str} {a b : Int} (h : a ≤ b + 1) : countIn z a b = true ↔ ∃ i, z = numS i ∧ a ≤ i ∧ i ≤ b := by
  unfold countIn nums
  rw [decide_eq_true_iff, List.mem_map]
  constructor
  · rintro ⟨n, hn, rfl⟩
    have := List.mem_range.mp hn
    exact ⟨_, rfl, by omega, by omega⟩
  · rintro ⟨i, rfl, h1, h2⟩
    exact ⟨(i - a).toNat, List.mem_range.mpr (by omega), by rw [show a + ((i - a).toNat : Int) = i by omega]⟩
theorem size_iff {z : Str} : isSize (numIn z) = true ↔ z ∈ sizesT := by
  constructor
  · intro h
    rcases size_cases h with q | q | q | q | q <;> (obtain ⟨rfl, _⟩ := numIn_iff.mp q; decide +kernel)
  · intro h
    unfold sizesT at h
    simp only [List.mem_cons, List.not_mem_nil, or_false] at h
    rcases h with h | h | h | h | h <;> subst h <;> decide +kernel
theorem group_iff {z : Str} : isGroup z = true ↔ z ∈ groupsT := by
  have e : isGroup z = inV (.str z) (groupsT.map V.str) := rfl
  rw [e, inV_strs, decide_eq_true_iff]
theorem ext_iff {z : Str} : isExt z = true ↔ countIn z 3 128 = true := by
  rw [countIn_iff (by decide)]
  constructor
  · intro h
    obtain ⟨h1, h2, h3, h4⟩ := ext_facts h
    exact ⟨_, (dec_num h1 h2).1, h3, h4⟩
  · rintro ⟨i, rfl, h1, h2⟩
    obtain ⟨a, b, c⟩ := num_facts (i := i) (by omega) (by omega)
    unfold isExt
    rw [a, c, decide_eq_true b, decide_eq_true h1, decide_eq_true h2]
    rfl
theorem reg_iff {z : Str} : countIn z 0 3 = true ↔ ∃ i, numIn z = .int i ∧ i ≤ 3 := by
  rw [countIn_iff (by decide)]
  constructor
  · rintro ⟨i, rfl, h1, h2⟩
    exact ⟨i, numIn_numS h1 (by omega), h2⟩
  · rintro ⟨i, h, h3⟩
    obtain ⟨rfl, h0, _⟩ := numIn_iff.mp h
    exact ⟨i, rfl, h0, h3⟩
end U
/-! ## the plain law: line by line -/
namespace U
open PySem PySem.Spec PyProof.Rows L2 StX TL
def optWords (c : ConvD) : List (List Str) := [[Str.ofString "registers", numS c.wholes, numS c.floats], [Str.ofString "together", yesNo c.together], [Str.ofString "doubles", c.doubles], [Str.ofString "again", yesNo c.again],
  [Str.ofString "slot", numS c.slot], [Str.ofString "natural", yesNo c.natural], [Str.ofString "home", numS c.home], [Str.ofString "tail", c.tail]]
def fillWords (n : Str) (f : FillD) : List Str := [Str.ofString "fill", n, f.word, extS f.ext]
/-- the lines that were read, by what they told -/
def told (d : RdD) : List (List Str) := d.ks.map kindWords ++ ((optWords d.c).take (d.m - 1) ++ d.fl.map fun e => fillWords e.1 e.2)
structure Lock (d : RdD) (e : LwD) : Prop where
  names : e.names = d.names
  last : e.last = d.last
  step : e.step = d.m - 1
  m9 : d.m = 0 ∨ (2 ≤ d.m ∧ d.m ≤ 9)
  few : d.ks.length ≤ 5
  fl0 : d.m ≠ 9 → d.fl = [] ∧ d.last = -1
  nd : d.names.Nodup
  lo : -1 ≤ d.last
  sub : (d.fl.map (·.1)).Sublist (d.names.take (d.last + 1).toNat)
  tl : ∀ e ∈ d.fl, isTold e.2 = true
/-! ### a kind -/
theorem kindIn_words {ws : List Str} {k : KindD} (h : kindIn ws = some k) : ws = kindWords k ∧ k.ok = true := by
  refine ⟨?_, kindIn_ok h⟩
  unfold kindIn at h
  split at h
  · rename_i a b c d e f
    by_cases h1 : a = Str.ofString "kind" ∧ isName b = true ∧ isGroup c = true ∧ isSize (numIn d) = true
    · rw [if_pos h1] at h
      split at h
      · rename_i s w l es ew el
        by_cases h2 : isWidth (.int w) s = true ∧ isSize (.int l) = true
        · rw [if_pos h2] at h
          cases h
          rw [h1.1, (numIn_iff.mp es).1, (numIn_iff.mp ew).1, (numIn_iff.mp el).1]
          rfl
        · rw [if_neg h2] at h
          cases h
      · cases h
    · rw [if_neg h1] at h
      cases h
  · cases h
theorem kind_nums {k : KindD} (ok : k.ok = true) : isName k.name = true ∧ isGroup k.group = true ∧ isSize (.int k.size) = true ∧ isWidth (.int k.width) k.size = true ∧ isSize (.int k.align) = true := by
  obtain ⟨o1, o2⟩ := He.ba ok
  obtain ⟨o3, o4⟩ := He.ba o2
  obtain ⟨o5, o6⟩ := He.ba o4
  obtain ⟨o7, o8⟩ := He.ba o6
  exact ⟨o1, o3, o5, o7, o8⟩
theorem kindIn_back {k : KindD} (ok : k.ok = true) : kindIn (kindWords k) = some k := by
  obtain ⟨o1, o3, o5, o7, o8⟩ := kind_nums ok
  obtain ⟨_, _, ⟨s0, s1⟩, ⟨w0, w1⟩, ⟨a0, a1⟩⟩ := kind_le ok
  have es := numIn_numS (i := k.size) s0 (by omega)
  have ew := numIn_numS (i := k.width) w0 (by omega)
  have el := numIn_numS (i := k.align) a0 (by omega)
  show (if Str.ofString "kind" = Str.ofString "kind" ∧ isName k.name = true ∧ isGroup k.group = true ∧ isSize (numIn (numS k.size)) = true then
      (match numIn (numS k.size), numIn (numS k.width), numIn (numS k.align) with
        | .int s, .int w, .int l => if isWidth (.int w) s = true ∧ isSize (.int l) = true then some ⟨k.name, k.group, s, w, l⟩ else none
        | _, _, _ => none) else none) = some k
  rw [es, ew, el, if_pos ⟨rfl, o1, o3, o5⟩]
  show (if isWidth (.int k.width) k.size = true ∧ isSize (.int k.align) = true then some k else none) = some k
  rw [if_pos ⟨o7, o8⟩]
theorem law_kind_iff {ws : List Str} {d : RdD} (few : d.ks.length ≤ 5) : lawKind ws d.names = true ↔ ∃ k, kindIn ws = some k ∧ k.name ∉ d.names ∧ d.ks.length ≠ 5 := by
  have ln : d.names.length = d.ks.length := List.length_map ..
  constructor
  · intro h
    unfold lawKind at h
    split at h
    · rename_i a b c e f g
      obtain ⟨h1, h⟩ := He.ba h
      obtain ⟨h2, h⟩ := He.ba h
      obtain ⟨h3, h⟩ := He.ba h
      obtain ⟨h4, h⟩ := He.ba h
      obtain ⟨h5, h⟩ := He.ba h
      obtain ⟨h6, h⟩ := He.ba h
      obtain ⟨h7, h8⟩ := He.ba h
      have h2 := of_decide_eq_true h2
      have h3 := of_decide_eq_true h3
      have h6 := of_decide_eq_true h6
      have h8 := of_decide_eq_true h8
      obtain ⟨q1, q2, q3, q4⟩ := size_word h6
      have es : numIn e = .int (valT e) := numIn_iff.mpr ⟨(dec_num q1 (by omega)).1, by omega, by omega⟩
      obtain ⟨w, rfl, w1, w2⟩ := (countIn_iff (by split <;> omega)).mp h7
      have ew : numIn (numS w) = .int w := numIn_numS (by split at w1 <;> omega) (by omega)
      obtain ⟨r1, r2, r3, r4⟩ := size_word h8
      have el : numIn g = .int (valT g) := numIn_iff.mpr ⟨(dec_num r1 (by omega)).1, by omega, by omega⟩
      refine ⟨⟨b, c, valT e, w, valT g⟩, ?_, h3, by omega⟩
      show (if a = Str.ofString "kind" ∧ isName b = true ∧ isGroup c = true ∧ isSize (numIn e) = true then
        (match numIn e, numIn (numS w), numIn g with
          | .int s, .int w, .int l => if isWidth (.int w) s = true ∧ isSize (.int l) = true then some (⟨b, c, s, w, l⟩ : KindD) else none
          | _, _, _ => none) else none) = _
      rw [if_pos ⟨of_decide_eq_true h1, h4, group_iff.mpr (of_decide_eq_true h5), size_iff.mpr h6⟩, es, ew, el]
      have sl := size_iff.mpr h8
      rw [el] at sl
      have wl : isWidth (.int w) (valT e) = true := by
        show (decide ((if valT e = 16 then 65 else 2) ≤ w) && decide (w ≤ 8 * valT e)) = true
        rw [decide_eq_true w1, decide_eq_true w2]
        rfl
      exact if_pos ⟨wl, sl⟩
    · cases h
  · rintro ⟨k, hk, nn, n5⟩
    obtain ⟨rfl, ok⟩ := kindIn_words hk
    obtain ⟨o1, o3, o5, o7, o8⟩ := kind_nums ok
    obtain ⟨_, _, ⟨s0, s1⟩, ⟨w0, w1⟩, ⟨a0, a1⟩⟩ := kind_le ok
    show (decide (Str.ofString "kind" = Str.ofString "kind") && (decide (d.names.length < 5) && (decide (k.name ∉ d.names) && (isName k.name && (decide (k.group ∈ groupsT) && (decide (numS k.size ∈ sizesT) && (countIn (numS k.width) (if valT (numS k.size) = 16 then 65 else 2) (8 * valT (numS k.size)) && decide (numS k.align ∈ sizesT)))))))) = true
    have es : isSize (numIn (numS k.size)) = true := by rw [numIn_numS s0 (by omega)]; exact o5
    have el : isSize (numIn (numS k.align)) = true := by rw [numIn_numS a0 (by omega)]; exact o8
    rw [(num_facts s0 (by omega)).2.2, decide_eq_true rfl, decide_eq_true (show d.names.length < 5 by omega), decide_eq_true nn, o1, decide_eq_true (group_iff.mp o3), decide_eq_true (size_iff.mp es), decide_eq_true (size_iff.mp el)]
    obtain ⟨w1, w2⟩ := He.ba o7
    have w1 := of_decide_eq_true w1
    have w2 := of_decide_eq_true w2
    rw [(countIn_iff (by omega)).mpr ⟨_, rfl, w1, w2⟩]
    rfl
end U
/-! ## the plain law: one line -/
namespace U
open PySem PySem.Spec PyProof.Rows L2 StX TL
theorem regs_lock {ws : List Str} {d : RdD} {e : LwD} (hk : d.ks ≠ []) : (tkRegs ws d = none ∧ lwRegs ws e = none) ∨ ∃ w f, ws = [Str.ofString "registers", numS w, numS f] ∧ tkRegs ws d = some (d.regs w f) ∧ lwRegs ws e = some { e with step := 1 } := by
  match ws with
  | [] => exact .inl ⟨rfl, rfl⟩
  | [_] => exact .inl ⟨rfl, rfl⟩
  | [_, _] => exact .inl ⟨rfl, rfl⟩
  | _ :: _ :: _ :: _ :: _ => exact .inl ⟨rfl, rfl⟩
  | [a, b, c] =>
    have e1 : tkRegs [a, b, c] d = if a = Str.ofString "registers" ∧ d.ks ≠ [] then (match numIn b, numIn c with
      | .int w, .int f => if w ≤ 3 ∧ f ≤ 3 then some (d.regs w f) else none
      | _, _ => none) else none := rfl
    have e2 : lwRegs [a, b, c] e = if a = Str.ofString "registers" ∧ countIn b 0 3 = true ∧ countIn c 0 3 = true then some { e with step := 1 } else none := rfl
    rw [e1, e2]
    by_cases ha : a = Str.ofString "registers"
    · by_cases hb : countIn b 0 3 = true
      · by_cases hc : countIn c 0 3 = true
        · obtain ⟨w, hw, w3⟩ := reg_iff.mp hb
          obtain ⟨f, hf, f3⟩ := reg_iff.mp hc
          right
          refine ⟨w, f, ?_, ?_, if_pos ⟨ha, hb, hc⟩⟩
          · rw [ha, (numIn_iff.mp hw).1, (numIn_iff.mp hf).1]
          · rw [if_pos ⟨ha, hk⟩, hw, hf]
            exact if_pos ⟨w3, f3⟩
        · left
          refine ⟨?_, if_neg fun z => hc z.2.2⟩
          rw [if_pos ⟨ha, hk⟩]
          rcases numIn_cases b with q | ⟨w, q⟩
          · rw [q]
          · rcases numIn_cases c with q2 | ⟨f, q2⟩
            · rw [q, q2]
            · rw [q, q2]
              exact if_neg fun z => hc (reg_iff.mpr ⟨f, q2, z.2⟩)
      · left
        refine ⟨?_, if_neg fun z => hb z.2.1⟩
        rw [if_pos ⟨ha, hk⟩]
        rcases numIn_cases b with q | ⟨w, q⟩
        · rw [q]
        · rcases numIn_cases c with q2 | ⟨f, q2⟩
          · rw [q, q2]
          · rw [q, q2]
            exact if_neg fun z => hb (reg_iff.mpr ⟨w, q, z.1⟩)
    · exact .inl ⟨if_neg fun z => ha z.1, if_neg fun z => ha z.1⟩
theorem opt_words {m : Nat} {c : ConvD} {ch : Str × List (Str × V)} {x : Str × V} (h2 : 2 ≤ m) (h9 : m < 9) (hc : choices[m - 2]? = some ch) (hx : x ∈ ch.2) :
    (optWords (setOpt (m - 2) x.2 c)).take m = (optWords c).take (m - 1) ++ [[ch.1, x.1]] := by
  have hm : m = 2 ∨ m = 3 ∨ m = 4 ∨ m = 5 ∨ m = 6 ∨ m = 7 ∨ m = 8 := by omega
  rcases hm with h | h | h | h | h | h | h <;> subst h <;> (obtain rfl := Option.some.inj hc) <;>
    (simp only [List.mem_cons, List.not_mem_nil, or_false] at hx; first | (rcases hx with h | h <;> subst h <;> rfl) | (rcases hx with h | h | h <;> subst h <;> rfl))
theorem optTab_eq : optTab = choices.map fun c => (c.1, c.2.map (·.1)) := rfl
theorem lwOpt_other {ws : List Str} {e : LwD} (h : ∀ a b, ws ≠ [a, b]) : lwOpt ws e = none := by
  unfold lwOpt
  split
  · exact absurd rfl (h _ _)
  · rfl
theorem choice_lock {ws : List Str} {d : RdD} {e : LwD} (h2 : 2 ≤ d.m) (h9 : d.m < 9) (hs : e.step = d.m - 1) : (tkChoice ws d = none ∧ lwOpt ws e = none) ∨
    ∃ ch x, choices[d.m - 2]? = some ch ∧ x ∈ ch.2 ∧ ws = [ch.1, x.1] ∧ tkChoice ws d = some (d.choose x.2) ∧ lwOpt ws e = some { e with step := e.step + 1 } := by
  have hl : d.m - 2 < choices.length := by
    show d.m - 2 < 7
    omega
  obtain ⟨ch, hch⟩ : ∃ ch, choices[d.m - 2]? = some ch := ⟨_, List.getElem?_eq_getElem hl⟩
  have ht : optTab[e.step - 1]? = some (ch.1, ch.2.map (·.1)) := by
    rw [hs, show d.m - 1 - 1 = d.m - 2 by omega, optTab_eq, List.getElem?_map, hch]
    rfl
  have e1 : tkChoice ws d = if ws.head? = some ch.1 then (match ch.2.filter (fits ws) with
      | [] => none
      | c :: _ => some (d.choose c.2)) else none := by
    unfold tkChoice
    rw [hch]
    try rfl
  rw [e1]
  by_cases two : ∃ a b, ws = [a, b]
  · obtain ⟨a, b, rfl⟩ := two
    have e2 : lwOpt [a, b] e = if a = ch.1 ∧ b ∈ ch.2.map (·.1) then some { e with step := e.step + 1 } else none := by
      unfold lwOpt
      rw [ht]
    rw [e2]
    by_cases ha : a = ch.1
    · have hh : ([a, b] : List Str).head? = some ch.1 := by rw [ha]; rfl
      rw [if_pos hh]
      cases hf : ch.2.filter (fits [a, b]) with
      | nil =>
        refine .inl ⟨rfl, if_neg fun z => ?_⟩
        obtain ⟨x, hx, hxb⟩ := List.mem_map.mp z.2
        have : x ∈ ch.2.filter (fits [a, b]) := List.mem_filter.mpr ⟨hx, decide_eq_true (by rw [hxb]; rfl)⟩
        rw [hf] at this
        cases this
      | cons x r =>
        have hx : x ∈ ch.2.filter (fits [a, b]) := by
          rw [hf]
          exact .head _
        obtain ⟨hx1, hx2⟩ := List.mem_filter.mp hx
        have hb : [b] = [x.1] := of_decide_eq_true hx2
        have hb : b = x.1 := by
          injection hb
        refine .inr ⟨ch, x, hch, hx1, by rw [ha, hb], rfl, if_pos ⟨ha, List.mem_map.mpr ⟨x, hx1, hb.symm⟩⟩⟩
    · refine .inl ⟨if_neg fun z => ha (Option.some.inj z), if_neg fun z => ha z.1⟩
  · left
    refine ⟨?_, lwOpt_other fun a b z => two ⟨a, b, z⟩⟩
    by_cases hh : ws.head? = some ch.1
    · rw [if_pos hh]
      have : ch.2.filter (fits ws) = [] := List.filter_eq_nil_iff.mpr fun x hx z => by
        have z := of_decide_eq_true z
        match ws, hh, z with
        | a :: r, hh, z =>
          have z : r = [x.1] := z
          exact two ⟨a, x.1, by rw [z]⟩
      rw [this]
    · rw [if_neg hh]
theorem fill_lock {ws : List Str} {d : RdD} {e : LwD} (hn : e.names = d.names) (hl : e.last = d.last) : (tkFill ws d = none ∧ lwFill ws e = none) ∨
    ∃ n w x, ws = [Str.ofString "fill", n, w, numS x] ∧ n ∈ d.names ∧ d.last < idxI d.names n ∧ (w = ZEROS ∨ w = SIGN) ∧ tkFill ws d = some (d.fill n w x) ∧ lwFill ws e = some { e with last := idxI d.names n } := by
  match ws with
  | [] => exact .inl ⟨rfl, rfl⟩
  | [_] => exact .inl ⟨rfl, rfl⟩
  | [_, _] => exact .inl ⟨rfl, rfl⟩
  | [_, _, _] => exact .inl ⟨rfl, rfl⟩
  | _ :: _ :: _ :: _ :: _ :: _ => exact .inl ⟨rfl, rfl⟩
  | [a, n, w, x] =>
    have e1 : tkFill [a, n, w, x] d = if a = Str.ofString "fill" ∧ n ∈ d.names ∧ d.last < idxI d.names n ∧ (w = ZEROS ∨ w = SIGN) ∧ isExt x = true then some (d.fill n w (valT x)) else none := rfl
    have e2 : lwFill [a, n, w, x] e = if a = Str.ofString "fill" ∧ n ∈ e.names ∧ e.last < idxI e.names n ∧ (w = ZEROS ∨ w = SIGN) ∧ countIn x 3 128 = true then some { e with last := idxI e.names n } else none := rfl
    rw [e1, e2, hn, hl]
    by_cases h : a = Str.ofString "fill" ∧ n ∈ d.names ∧ d.last < idxI d.names n ∧ (w = ZEROS ∨ w = SIGN) ∧ isExt x = true
    · obtain ⟨h1, h2, h3, h4, h5⟩ := h
      refine .inr ⟨n, w, valT x, ?_, h2, h3, h4, if_pos ⟨h1, h2, h3, h4, h5⟩, if_pos ⟨h1, h2, h3, h4, ext_iff.mp h5⟩⟩
      obtain ⟨q1, q2, _⟩ := ext_facts h5
      rw [← (dec_num q1 q2).1, h1]
    · refine .inl ⟨if_neg h, if_neg fun z => h ⟨z.1, z.2.1, z.2.2.1, z.2.2.2.1, ext_iff.mpr z.2.2.2.2⟩⟩
end U
/-! ## the plain law: all lines -/
namespace U
open PySem PySem.Spec PyProof.Rows L2 StX TL
theorem rd_zero {ws : List Str} {d : RdD} (h : d.m = 0) : rdTake ws d = if ws.head? = some (Str.ofString "kind") then tkKind ws d else tkRegs ws d := by
  unfold rdTake
  rw [if_neg (by omega), if_neg (by omega)]
theorem rd_mid {ws : List Str} {d : RdD} (h2 : 2 ≤ d.m) (h9 : d.m < 9) : rdTake ws d = tkChoice ws d := by
  unfold rdTake
  rw [if_neg (by omega), if_pos (by omega)]
theorem rd_nine {ws : List Str} {d : RdD} (h : d.m = 9) : rdTake ws d = tkFill ws d := by
  unfold rdTake
  rw [if_pos h]
theorem told_zero {d : RdD} (h : d.m = 0) (hf : d.fl = []) : told d = d.ks.map kindWords := by
  unfold told
  rw [h, hf, List.map_nil, List.append_nil, List.take_zero, List.append_nil]
theorem names_map (d : RdD) : d.names = d.ks.map (·.name) := rfl
theorem lock_step {d : RdD} {e : LwD} {ws : List Str} (L : Lock d e) : (rdTake ws d = none ∧ lwStep ws e = none) ∨ ∃ d' e', rdTake ws d = some d' ∧ lwStep ws e = some e' ∧ Lock d' e' ∧ told d' = told d ++ [ws] := by
  by_cases h0 : d.m = 0
  · have hs : e.step = 0 := by rw [L.step, h0]
    obtain ⟨hf, hlast⟩ := L.fl0 (by omega)
    rw [rd_zero h0]
    cases hk : lawKind ws e.names with
    | true =>
      rw [lw_kind hs hk]
      rw [L.names] at hk
      obtain ⟨k, k1, k2, k3⟩ := (law_kind_iff L.few).mp hk
      obtain ⟨rfl, ok⟩ := kindIn_words k1
      right
      refine ⟨d.addKind k, _, ?_, rfl, ?_, ?_⟩
      · rw [if_pos (show (kindWords k).head? = some (Str.ofString "kind") from rfl)]
        unfold tkKind
        rw [k1]
        exact if_neg fun z => z.elim k2 k3
      · have hd' : (d.addKind k).names = d.names ++ [k.name] := names_add d k
        refine ⟨?_, L.last, L.step, L.m9, ?_, L.fl0, ?_, L.lo, ?_, L.tl⟩
        · rw [hd']
          show e.names ++ [k.name] = _
          rw [L.names]
        · show (d.ks ++ [k]).length ≤ 5
          rw [List.length_append]
          have := L.few
          show d.ks.length + 1 ≤ 5
          omega
        · rw [hd']
          refine List.nodup_append.mpr ⟨L.nd, by simp, fun a ha b hb => ?_⟩
          rw [List.mem_singleton.mp hb]
          exact fun z => k2 (z ▸ ha)
        · show (d.fl.map (·.1)).Sublist _
          rw [hf]
          exact List.nil_sublist _
      · rw [told_zero (d := d.addKind k) h0 hf, told_zero h0 hf]
        show (d.ks ++ [k]).map kindWords = _
        rw [List.map_append]
        rfl
    | false =>
      have nk : ∀ k, kindIn ws = some k → k.name ∈ d.names ∨ d.ks.length = 5 := fun k hk2 => by
        by_cases q : k.name ∈ d.names
        · exact .inl q
        · by_cases q2 : d.ks.length = 5
          · exact .inr q2
          · have := (law_kind_iff L.few).mpr ⟨k, hk2, q, q2⟩
            rw [← L.names, hk] at this
            cases this
      by_cases hh : ws.head? = some (Str.ofString "kind")
      · left
        rw [if_pos hh]
        constructor
        · unfold tkKind
          cases hk2 : kindIn ws with
          | none => rfl
          | some k => exact if_pos (nk k hk2)
        · by_cases hn : e.names = []
          · exact lw_none0 hs hk hn
          · rw [lw_regs hs hk hn]
            unfold lwRegs
            split
            · rename_i a b c
              refine if_neg fun z => ?_
              have h1 : a = Str.ofString "kind" := Option.some.inj hh
              rw [h1] at z
              exact absurd z.1 (by decide +kernel)
            · rfl
      · rw [if_neg hh]
        by_cases hn : e.names = []
        · left
          refine ⟨?_, lw_none0 hs hk hn⟩
          have ks0 : d.ks = [] := names_nil.mp (L.names ▸ hn)
          unfold tkRegs
          split
          · exact if_neg fun z => z.2 ks0
          · rfl
        · rw [lw_regs hs hk hn]
          have hks : d.ks ≠ [] := fun z => hn (by rw [L.names]; exact names_nil.mpr z)
          rcases regs_lock (ws := ws) (e := e) hks with h | ⟨w, f, rfl, h1, h2⟩
          · exact .inl h
          · refine .inr ⟨_, _, h1, h2, ⟨L.names, L.last, rfl, .inr ⟨by show 2 ≤ 2; decide, by show 2 ≤ 9; decide⟩, L.few, fun _ => ⟨hf, hlast⟩, L.nd, L.lo, L.sub, L.tl⟩, ?_⟩
            rw [told_zero h0 hf]
            unfold told
            show d.ks.map kindWords ++ ((optWords { d.c with wholes := w, floats := f }).take 1 ++ d.fl.map _) = _
            rw [hf]
            rfl
  · obtain ⟨h2, h9⟩ := L.m9.resolve_left h0
    by_cases h8 : d.m = 9
    · rw [rd_nine h8, lw_fill (by rw [L.step, h8])]
      rcases fill_lock (ws := ws) L.names L.last with h | ⟨n, w, x, rfl, n1, n2, n3, f1, f2⟩
      · exact .inl h
      · obtain ⟨i1, i2, i3⟩ := idx_facts n1
        have lo := L.lo
        have n2' : d.last < ((d.names.idxOf n : Nat) : Int) := n2
        refine .inr ⟨_, _, f1, f2, ⟨L.names, rfl, L.step, L.m9, L.few, fun z => absurd h8 z, L.nd, ?_, ?_, ?_⟩, ?_⟩
        · show (-1 : Int) ≤ ((d.names.idxOf n : Nat) : Int)
          omega
        · show ((d.fl ++ [(n, (⟨w, .int x⟩ : FillD))]).map (·.1)).Sublist (d.names.take (((d.names.idxOf n : Nat) : Int) + 1).toNat)
          have e1 : (((d.names.idxOf n : Nat) : Int) + 1).toNat = d.names.idxOf n + 1 := by omega
          have e2 : d.names.take (d.names.idxOf n + 1) = d.names.take (d.names.idxOf n) ++ [n] := by
            rw [List.take_add_one, i1]
            rfl
          rw [e1, e2, List.map_append]
          refine List.Sublist.append (L.sub.trans ?_) (List.Sublist.refl _)
          have e3 : d.names.take (d.last + 1).toNat = (d.names.take (d.names.idxOf n)).take (d.last + 1).toNat := by
            rw [List.take_take, Nat.min_eq_left (by omega)]
          rw [e3]
          exact List.take_sublist _ _
        · intro u hu
          rcases List.mem_append.mp hu with q | q
          · exact L.tl u q
          · rw [List.mem_singleton.mp q]
            show decide (w ≠ FREE) = true
            rcases n3 with q | q <;> rw [q] <;> decide +kernel
        · unfold told
          show d.ks.map kindWords ++ ((optWords d.c).take (d.m - 1) ++ (d.fl ++ [(n, (⟨w, .int x⟩ : FillD))]).map _) = _
          rw [List.map_append, List.append_assoc, List.append_assoc]
          rfl
    · have h9' : d.m < 9 := by omega
      obtain ⟨hf, hlast⟩ := L.fl0 h8
      rw [rd_mid h2 h9', lw_opt (by rw [L.step]; omega) (by rw [L.step]; omega)]
      rcases choice_lock (ws := ws) h2 h9' L.step with h | ⟨ch, x, c1, c2, rfl, c3, c4⟩
      · exact .inl h
      · refine .inr ⟨_, _, c3, c4, ⟨L.names, L.last, ?_, .inr ⟨?_, ?_⟩, L.few, fun _ => ⟨hf, hlast⟩, L.nd, L.lo, L.sub, L.tl⟩, ?_⟩
        · show e.step + 1 = d.m + 1 - 1
          rw [L.step]
          omega
        · show 2 ≤ d.m + 1
          omega
        · show d.m + 1 ≤ 9
          omega
        · unfold told
          show d.ks.map kindWords ++ ((optWords (setOpt (d.m - 2) x.2 d.c)).take (d.m + 1 - 1) ++ d.fl.map _) = _
          rw [show d.m + 1 - 1 = d.m by omega, opt_words h2 h9' c1 c2, hf]
          simp only [List.map_nil, List.append_nil, List.append_assoc]
theorem lock0 : Lock rd0 lw0 := ⟨rfl, rfl, rfl, .inl rfl, by decide, fun _ => ⟨rfl, rfl⟩, List.nodup_nil, by decide, List.nil_sublist _, fun e h => absurd h List.not_mem_nil⟩
theorem lock_run : ∀ (l : List (List Str)) {d : RdD} {e : LwD} (k : Nat), Lock d e → (∃ n, k < n ∧ rdRun d k l = .error n ∧ lwRun e k l = .error n ∧ n ≤ k + l.length) ∨ ∃ d' e', rdRun d k l = .ok d' ∧ lwRun e k l = .ok e' ∧ Lock d' e' ∧ told d' = told d ++ l
  | [], d, e, k, L => .inr ⟨d, e, rfl, rfl, L, (List.append_nil _).symm⟩
  | ws :: r, d, e, k, L => by
    have e1 : rdRun d k (ws :: r) = match rdTake ws d with
      | none => .error (k + 1)
      | some d' => rdRun d' (k + 1) r := rfl
    have e2 : lwRun e k (ws :: r) = match lwStep ws e with
      | none => .error (k + 1)
      | some d' => lwRun d' (k + 1) r := rfl
    rw [e1, e2]
    rcases lock_step (ws := ws) L with ⟨h1, h2⟩ | ⟨d', e', h1, h2, L', t⟩
    · rw [h1, h2]
      exact .inl ⟨k + 1, by omega, rfl, rfl, by rw [List.length_cons]; omega⟩
    · rw [h1, h2]
      rcases lock_run r (k + 1) L' with ⟨n, a, b, c, dd⟩ | ⟨d2, e2', a, b, L2, t2⟩
      · exact .inl ⟨n, by omega, b, c, by rw [List.length_cons]; omega⟩
      · exact .inr ⟨d2, e2', a, b, L2, by rw [t2, t, List.append_assoc]; rfl⟩
end U
/-! ## the plain law: what is told of a page is the page, or its wrong line -/
namespace U
open PySem PySem.Spec PyProof.Rows L2 StX TL
theorem opt_join (c : ConvD) : (optWords c).map (Txt.join SP) = optLines c := by
  rw [optLines_eq]
  unfold optWords
  rfl
theorem fill_join (n : Str) (f : FillD) : Txt.join SP (fillWords n f) = fillLine n f := by
  refine ext_tl ?_
  have e1 : tl (Str.ofString "fill ") = tl (Str.ofString "fill") ++ [32] := by decide +kernel
  have e2 : tl (Str.ofString " ") = [32] := by decide +kernel
  rw [join_eq, tl_join, tl_SP]
  unfold fillWords fillLine
  simp only [tl_append, e1, e2, List.map_cons, List.map_nil, joinL, List.append_assoc]
  rfl
theorem toldL_cons (a : Str) (f : FillD) (fl : List (Str × FillD)) (n : Str) : toldL ((a, f) :: fl) n = if a = n then f else toldL fl n := by
  unfold toldL
  rw [List.find?_cons]
  by_cases h : a = n
  · rw [if_pos h, show decide ((a, f).1 = n) = true from decide_eq_true h]
  · rw [if_neg h, show decide ((a, f).1 = n) = false from decide_eq_false h]
theorem toldL_none {n : Str} : ∀ {fl : List (Str × FillD)}, n ∉ fl.map (·.1) → toldL fl n = ⟨FREE, .non⟩
  | [], _ => rfl
  | (a, f) :: r, h => by
    rw [toldL_cons, if_neg (fun z : a = n => h (by rw [← z]; exact List.mem_cons_self ..))]
    exact toldL_none fun z => h (List.mem_cons_of_mem _ z)
theorem fillLines_cons (g : Str → FillD) (n : Str) (ns : List Str) : fillLines g (n :: ns) = (if isTold (g n) = true then [fillLine n (g n)] else []) ++ fillLines g ns := by
  unfold fillLines
  rw [List.filter_cons]
  split
  · rfl
  · rfl
theorem fillLines_congr {g g' : Str → FillD} {ns : List Str} (h : ∀ n ∈ ns, g n = g' n) : fillLines g ns = fillLines g' ns := by
  induction ns with
  | nil => rfl
  | cons n r ih => rw [fillLines_cons, fillLines_cons, h n (.head _), ih fun m hm => h m (.tail _ hm)]
theorem fills_told : ∀ {ns : List Str} {fl : List (Str × FillD)}, (fl.map (·.1)).Sublist ns → ns.Nodup → (∀ e ∈ fl, isTold e.2 = true) → fillLines (toldL fl) ns = fl.map fun e => fillLine e.1 e.2
  | [], fl, h, _, _ => by
    have := List.sublist_nil.mp h
    obtain rfl := List.map_eq_nil_iff.mp this
    rfl
  | n :: ns, fl, h, nd, ht => by
    obtain ⟨n1, n2⟩ := List.nodup_cons.mp nd
    rw [fillLines_cons]
    by_cases hn : n ∈ fl.map (·.1)
    · match fl, h, ht, hn with
      | (a, f) :: r, h, ht, hn =>
        have h' : (a :: r.map (·.1)).Sublist (n :: ns) := h
        have ha : a = n := by
          rcases List.sublist_cons_iff.mp h' with q | ⟨r', hr', _⟩
          · rcases List.mem_cons.mp hn with z | z
            · exact z.symm
            · exact absurd (q.subset (List.mem_cons_of_mem _ z)) n1
          · injection hr'
        subst ha
        have h2 : (r.map (·.1)).Sublist ns := List.cons_sublist_cons.mp h'
        rw [toldL_cons, if_pos rfl, if_pos (ht _ (.head _))]
        have ih := fills_told h2 n2 fun e he => ht e (.tail _ he)
        have : fillLines (toldL ((a, f) :: r)) ns = fillLines (toldL r) ns := fillLines_congr fun m hm => by
          rw [toldL_cons, if_neg (fun z : a = m => n1 (by rw [z]; exact hm))]
        rw [this, ih]
        rfl
    · rw [toldL_none hn]
      have h2 : (fl.map (·.1)).Sublist ns := by
        rcases List.sublist_cons_iff.mp h with q | ⟨r, hr, q⟩
        · exact q
        · rw [hr] at hn
          exact absurd (List.mem_cons_self ..) hn
      have ih := fills_told h2 n2 ht
      rw [ih, if_neg (by decide +kernel)]
      rfl
theorem lf_join : ∀ ls : List Str, Txt.join LF (ls ++ [Str.empty]) = Txt.join Str.empty (ls.map lineLf) := fun ls => by
  refine ext_tl ?_
  rw [join_eq, join_eq, tl_join, tl_join, tl_LF]
  have e0 : tl Str.empty = [] := rfl
  rw [e0]
  induction ls with
  | nil => rfl
  | cons l r ih =>
    rw [List.cons_append, List.map_cons, List.map_cons, List.map_cons, joinL_cons (by simp)]
    have hl : tl (lineLf l) = tl l ++ [10] := by
      unfold lineLf
      rw [tl_append, tl_append]
      have : tl (Str.ofString "\n") = [10] := by decide +kernel
      rw [this]
      rfl
    rw [hl, ih]
    cases r with
    | nil =>
      show tl l ++ ([10] ++ []) = tl l ++ [10]
      rw [List.append_nil]
    | cons a s =>
      show tl l ++ ([10] ++ joinL [] (tl (lineLf a) :: (s.map lineLf).map tl)) = joinL [] ((tl l ++ [10]) :: (tl (lineLf a) :: (s.map lineLf).map tl))
      rw [joinL_cons (S := []) (p := tl l ++ [10]) (l := tl (lineLf a) :: (s.map lineLf).map tl) (List.cons_ne_nil _ _)]
      simp only [List.nil_append, List.append_assoc]
theorem told_lines {d : RdD} {e : LwD} (L : Lock d e) (h9 : d.m = 9) : (told d).map (Txt.join SP) = textLines d.ks (rdConv d) := by
  have a1 : (d.ks.map kindWords).map (Txt.join SP) = d.ks.map kindLine := by
    rw [List.map_map]
    exact List.map_congr_left fun k _ => kindLine_join k
  have a2 : ((optWords d.c).take 8).map (Txt.join SP) = optLines (rdConv d) := opt_join d.c
  have a3 : (d.fl.map fun e => fillWords e.1 e.2).map (Txt.join SP) = fillLines (rdConv d).fill (d.ks.map (·.name)) := by
    have := fills_told (ns := d.names) (fl := d.fl) (L.sub.trans (List.take_sublist _ _)) L.nd L.tl
    show _ = fillLines (toldL d.fl) d.names
    rw [this, List.map_map]
    exact List.map_congr_left fun u _ => fill_join u.1 u.2
  unfold told textLines
  rw [List.map_append, List.map_append, h9, a1, a2, a3]
theorem told_all (z : Str) : Told z ∧ lawWrong z ≤ z.length + 1 ∧ ∀ d, readText z = .ok d → lawWrong z = 0 := by
  have hne : linesOf z ≠ [] := cut_ne sep_LF z
  have hmany : (linesOf z).length ≤ z.length + 1 := cut_many sep_LF z
  have hpos : 0 < (linesOf z).length := List.length_pos_iff.mpr hne
  rcases lock_run ((linesOf z).dropLast.map wordsOf) 0 lock0 with ⟨n, n0, h1, h2, hn⟩ | ⟨d, e, h1, h2, L, t⟩
  · have r1 : readText z = .error n := by
      unfold readText
      rw [h1]
    have r2 : lawWrong z = n := by
      unfold lawWrong
      rw [h2]
    rw [List.length_map, List.length_dropLast] at hn
    refine ⟨?_, by omega, fun d hd => by rw [r1] at hd; cases hd⟩
    unfold Told toldOf
    rw [r1, r2, if_neg (by omega)]
  · have t0 : told d = (linesOf z).dropLast.map wordsOf := t
    have hst := L.step
    by_cases hg : (linesOf z).getLast? = some Str.empty ∧ d.m = 9
    · have r1 : readText z = .ok d := by
        unfold readText
        rw [h1]
        exact if_pos hg
      have r2 : lawWrong z = 0 := by
        unfold lawWrong
        rw [h2]
        refine if_neg fun q => q.elim (fun q => q hg.1) fun q => ?_
        rw [hst, hg.2] at q
        omega
      refine ⟨?_, by omega, fun _ _ => r2⟩
      unfold Told toldOf
      rw [r1, r2, if_pos rfl]
      have tl1 := told_lines L hg.2
      have hl : ((linesOf z).dropLast.map wordsOf).map (Txt.join SP) = (linesOf z).dropLast := by
        rw [List.map_map]
        conv => rhs; rw [← List.map_id (linesOf z).dropLast]
        refine List.map_congr_left fun l _ => ?_
        have := cut_join sep_SP l
        rw [← join_eq] at this
        exact this
      rw [t0, hl] at tl1
      have hz : textOf d.ks (rdConv d) = z := by
        unfold textOf
        rw [← tl1, ← lf_join]
        have sp : (linesOf z).dropLast ++ [Str.empty] = linesOf z := by
          obtain ⟨ys, hys⟩ := List.getLast?_eq_some_iff.mp hg.1
          rw [hys, List.dropLast_concat]
        rw [sp]
        have := cut_join sep_LF z
        rw [← join_eq] at this
        exact this
      show (textOf d.ks (rdConv d), (0 : Int)) = (z, ((0 : Nat) : Int))
      rw [hz]
      rfl
    · have r1 : readText z = .error (linesOf z).length := by
        unfold readText
        rw [h1]
        exact if_neg hg
      have r2 : lawWrong z = (linesOf z).length := by
        unfold lawWrong
        rw [h2]
        refine if_pos ?_
        by_cases q : (linesOf z).getLast? = some Str.empty
        · right
          have m9 : d.m ≠ 9 := fun z => hg ⟨q, z⟩
          rcases L.m9 with k | k
          · omega
          · omega
        · exact .inl q
      refine ⟨?_, by omega, fun d hd => by rw [r1] at hd; cases hd⟩
      unfold Told toldOf
      rw [r1, r2, if_neg (by omega)]
end U
/-! ## the plain law: what was written is read -/
namespace U
open PySem PySem.Spec PyProof.Rows L2 StX TL
/-! ### cut and joined -/
theorem spl_walk {s : Nat} : ∀ (p acc r : List Nat), s ∉ p → spl [s] 0 acc (p ++ r) = spl [s] 0 (acc ++ p) r
  | [], acc, r, _ => by rw [List.append_nil, List.nil_append]
  | c :: p, acc, r, h => by
    have hc : c ≠ s := fun z => h (z ▸ List.mem_cons_self ..)
    rw [List.cons_append, spl1_miss hc, spl_walk p (acc ++ [c]) r fun z => h (List.mem_cons_of_mem _ z), List.append_assoc]
    rfl
theorem spl_join {s : Nat} : ∀ (ps : List (List Nat)) (p : List Nat), s ∉ p → (∀ q ∈ ps, s ∉ q) → spl [s] 0 [] (joinL [s] (p :: ps)) = p :: ps
  | [], p, hp, _ => by
    show spl [s] 0 [] p = [p]
    have := spl_walk p [] [] hp
    rw [List.append_nil, List.nil_append] at this
    rw [this]
    rfl
  | q :: ps, p, hp, h => by
    rw [joinL_cons (List.cons_ne_nil _ _), spl_walk p [] _ hp, List.nil_append]
    show spl [s] 0 p (s :: joinL [s] (q :: ps)) = _
    rw [spl1_hit, spl_join ps q (h q (.head _)) fun u hu => h u (.tail _ hu)]
theorem tl_inj {a b : List Str} (h : a.map tl = b.map tl) : a = b := by
  induction a generalizing b with
  | nil =>
    cases b with
    | nil => rfl
    | cons y r => cases h
  | cons x r ih =>
    cases b with
    | nil => cases h
    | cons y r2 =>
      have h' : tl x :: r.map tl = tl y :: r2.map tl := h
      injection h' with h1 h2
      rw [ext_tl h1, ih h2]
theorem cut_of_join {y : Str} {s : Nat} (h : Sep y s) {ws : List Str} (ne : ws ≠ []) (free : ∀ w ∈ ws, s ∉ tl w) : Txt.split (Txt.join y ws) y = ws := by
  refine tl_inj ?_
  rw [cut_tl h, join_eq, tl_join, h.tl]
  cases ws with
  | nil => exact absurd rfl ne
  | cons w r =>
    rw [List.map_cons]
    refine spl_join _ _ (free w (.head _)) fun q hq => ?_
    obtain ⟨u, hu, rfl⟩ := List.mem_map.mp hq
    exact free u (.tail _ hu)
/-! ### words without a blank or an end of line -/
def plainB (w : Str) : Bool := (tl w).all fun c => decide (c ≠ 32) && (decide (c ≠ 10) && decide (c < 1000))
theorem plain_sp {w : Str} (h : plainB w = true) : (32 : Nat) ∉ tl w := fun z => by
  have := List.all_eq_true.mp h 32 z
  cases this
theorem plain_lf {w : Str} (h : plainB w = true) : (10 : Nat) ∉ tl w := fun z => by
  have := List.all_eq_true.mp h 10 z
  cases this
theorem plain_ok {w : Str} (h : plainB w = true) : PyData.strOk w = true := strOk_tl.mpr fun c hc => by
  have h1 := List.all_eq_true.mp h c hc
  have h2 := of_decide_eq_true (Bool.and_eq_true_iff.mp (Bool.and_eq_true_iff.mp h1).2).2
  omega
theorem plain_num_nat : ∀ n : Nat, n < 129 → plainB (numS (n : Int)) = true := by decide +kernel
theorem plain_num {i : Int} (h0 : 0 ≤ i) (h1 : i ≤ 128) : plainB (numS i) = true := by
  have z := plain_num_nat i.toNat (by omega)
  rwa [Int.toNat_of_nonneg h0] at z
theorem plain_name {n : Str} (h : isName n = true) : plainB n = true := by
  obtain ⟨_, h2⟩ := He.ba h
  obtain ⟨_, h3⟩ := He.ba h2
  refine List.all_eq_true.mpr fun c hc => ?_
  have h4 : c ∈ LETTERS.cps.toList := of_decide_eq_true (List.all_eq_true.mp h3 c hc)
  have all : ∀ c ∈ LETTERS.cps.toList, (decide (c ≠ 32) && (decide (c ≠ 10) && decide (c < 1000))) = true := by decide +kernel
  exact all c h4
theorem plain_group {g : Str} (h : isGroup g = true) : plainB g = true := by
  have := group_iff.mp h
  unfold groupsT at this
  simp only [List.mem_cons, List.not_mem_nil, or_false] at this
  rcases this with h | h <;> subst h <;> decide +kernel
theorem plain_yes (b : Bool) : plainB (yesNo b) = true := by cases b <;> decide +kernel
def allPlain (ws : List Str) : Prop := ∀ w ∈ ws, plainB w = true
theorem plain_kind {k : KindD} (ok : k.ok = true) : allPlain (kindWords k) := by
  obtain ⟨o1, o3, _⟩ := kind_nums ok
  obtain ⟨_, _, ⟨s0, s1⟩, ⟨w0, w1⟩, ⟨a0, a1⟩⟩ := kind_le ok
  intro w hw
  unfold kindWords at hw
  simp only [List.mem_cons, List.not_mem_nil, or_false] at hw
  rcases hw with h | h | h | h | h | h <;> rw [h]
  · decide +kernel
  · exact plain_name o1
  · exact plain_group o3
  · exact plain_num s0 s1
  · exact plain_num w0 w1
  · exact plain_num a0 a1
theorem plain_opts {c : ConvD} (ok : c.Ok) : ∀ ws ∈ optWords c, allPlain ws ∧ ws ≠ [] := by
  intro ws hws
  unfold optWords at hws
  simp only [List.mem_cons, List.not_mem_nil, or_false] at hws
  have d := ok.doubles
  have t := ok.tail
  have w := ok.wholes
  have f := ok.floats
  have sl := slot_le ok
  have ho := home_le ok
  have two : ∀ a b : Str, plainB a = true → plainB b = true → allPlain [a, b] ∧ [a, b] ≠ [] := fun a b ha hb => ⟨fun w hw => by
    simp only [List.mem_cons, List.not_mem_nil, or_false] at hw
    rcases hw with h | h <;> rw [h] <;> assumption, List.cons_ne_nil _ _⟩
  rcases hws with h | h | h | h | h | h | h | h <;> rw [h]
  · refine ⟨fun u hu => ?_, List.cons_ne_nil _ _⟩
    simp only [List.mem_cons, List.not_mem_nil, or_false] at hu
    rcases hu with h | h | h <;> rw [h]
    · decide +kernel
    · exact plain_num w.1 (by omega)
    · exact plain_num f.1 (by omega)
  · exact two _ _ (by decide +kernel) (plain_yes _)
  · exact two _ _ (by decide +kernel) (by rcases d with h | h | h <;> rw [h] <;> decide +kernel)
  · exact two _ _ (by decide +kernel) (plain_yes _)
  · exact two _ _ (by decide +kernel) (plain_num sl.1 sl.2)
  · exact two _ _ (by decide +kernel) (plain_yes _)
  · exact two _ _ (by decide +kernel) (plain_num ho.1 ho.2)
  · exact two _ _ (by decide +kernel) (by rcases t with h | h <;> rw [h] <;> decide +kernel)
theorem told_fill {f : FillD} (ok : f.Ok) (h : isTold f = true) : (f.word = ZEROS ∨ f.word = SIGN) ∧ ∃ i, f.ext = .int i ∧ 3 ≤ i ∧ i ≤ 128 := by
  rcases ok with ⟨q, _⟩ | q
  · exact absurd q (of_decide_eq_true h)
  · exact q
theorem plain_fill {n : Str} {f : FillD} (hn : isName n = true) (ok : f.Ok) (h : isTold f = true) : allPlain (fillWords n f) := by
  obtain ⟨hw, i, hi, i3, i128⟩ := told_fill ok h
  intro w hw2
  unfold fillWords at hw2
  rw [hi] at hw2
  simp only [List.mem_cons, List.not_mem_nil, or_false] at hw2
  rcases hw2 with h | h | h | h <;> rw [h]
  · decide +kernel
  · exact plain_name hn
  · rcases hw with q | q <;> rw [q] <;> decide +kernel
  · exact plain_num (by omega) i128
/-- the lines of a page by their words -/
def pageWords (ks : List KindD) (c : ConvD) : List (List Str) := ks.map kindWords ++ (optWords c ++ ((ks.map (·.name)).filter fun n => isTold (c.fill n)).map fun n => fillWords n (c.fill n))
theorem page_lines (ks : List KindD) (c : ConvD) : (pageWords ks c).map (Txt.join SP) = textLines ks c := by
  have a1 : (ks.map kindWords).map (Txt.join SP) = ks.map kindLine := by
    rw [List.map_map]
    exact List.map_congr_left fun k _ => kindLine_join k
  have a2 : (optWords c).map (Txt.join SP) = optLines c := opt_join c
  unfold pageWords textLines fillLines
  rw [List.map_append, List.map_append, a1, a2, List.map_map]
  congr 2
structure PageOk (ks : List KindD) (c : ConvD) : Prop where
  kok : ∀ k ∈ ks, k.ok = true
  nd : (ks.map (·.name)).Nodup
  few : ks.length ≤ 5
  ne : ks ≠ []
  cok : c.Ok
  fok : ∀ k ∈ ks, (c.fill k.name).Ok
theorem page_plain {ks : List KindD} {c : ConvD} (h : PageOk ks c) : ∀ ws ∈ pageWords ks c, allPlain ws ∧ ws ≠ [] := by
  intro ws hws
  unfold pageWords at hws
  rcases List.mem_append.mp hws with q | q
  · obtain ⟨k, hk, rfl⟩ := List.mem_map.mp q
    exact ⟨plain_kind (h.kok k hk), List.cons_ne_nil _ _⟩
  · rcases List.mem_append.mp q with q | q
    · exact plain_opts h.cok ws q
    · obtain ⟨n, hn, rfl⟩ := List.mem_map.mp q
      obtain ⟨hn1, hn2⟩ := List.mem_filter.mp hn
      obtain ⟨k, hk, rfl⟩ := List.mem_map.mp hn1
      exact ⟨plain_fill (kind_nums (h.kok k hk)).1 (h.fok k hk) hn2, List.cons_ne_nil _ _⟩
theorem join_lf {ws : List Str} (h : allPlain ws) : (10 : Nat) ∉ tl (Txt.join SP ws) := fun z => by
  rw [join_eq, tl_join, tl_SP] at z
  rcases joinL_mem z with q | ⟨p, hp, q⟩
  · exact absurd q (by decide)
  · obtain ⟨w, hw, rfl⟩ := List.mem_map.mp hp
    exact plain_lf (h w hw) q
theorem page_cut {ks : List KindD} {c : ConvD} (h : PageOk ks c) : linesOf (textOf ks c) = textLines ks c ++ [Str.empty] := by
  unfold linesOf textOf
  rw [← lf_join]
  refine cut_of_join sep_LF (by simp) fun w hw => ?_
  rcases List.mem_append.mp hw with q | q
  · rw [← page_lines] at q
    obtain ⟨ws, hws, rfl⟩ := List.mem_map.mp q
    exact join_lf (page_plain h ws hws).1
  · rw [List.mem_singleton.mp q]
    exact List.not_mem_nil
theorem page_words {ks : List KindD} {c : ConvD} (h : PageOk ks c) : (textLines ks c).map wordsOf = pageWords ks c := by
  rw [← page_lines, List.map_map]
  conv => rhs; rw [← List.map_id (pageWords ks c)]
  refine List.map_congr_left fun ws hws => ?_
  obtain ⟨p, ne⟩ := page_plain h ws hws
  exact cut_of_join sep_SP ne fun w hw => plain_sp (p w hw)
theorem page_ok {ks : List KindD} {c : ConvD} (h : PageOk ks c) : ∀ l ∈ textLines ks c, l.length ≤ 40 ∧ PyData.strOk l = true := by
  intro l hl
  refine ⟨textLines_le h.kok h.cok h.fok l hl, ?_⟩
  rw [← page_lines] at hl
  obtain ⟨ws, hws, rfl⟩ := List.mem_map.mp hl
  exact join_ok sep_SP fun w hw => plain_ok ((page_plain h ws hws).1 w hw)
end U
/-! ## the plain law: the reading of a written page -/
namespace U
open PySem PySem.Spec PyProof.Rows L2 StX TL
theorem run_cons {d d' : RdD} {ws : List Str} (h : rdTake ws d = some d') (k : Nat) (r : List (List Str)) : rdRun d k (ws :: r) = rdRun d' (k + 1) r := by
  show (match rdTake ws d with
    | none => (.error (k + 1) : Except Nat RdD)
    | some d' => rdRun d' (k + 1) r) = _
  rw [h]
theorem run_kinds : ∀ (ks2 ks1 : List KindD) (k : Nat) (r : List (List Str)), ((ks1 ++ ks2).map (·.name)).Nodup → (ks1 ++ ks2).length ≤ 5 → (∀ q ∈ ks2, q.ok = true) →
    rdRun ⟨ks1, 0, conv0, [], -1⟩ k (ks2.map kindWords ++ r) = rdRun ⟨ks1 ++ ks2, 0, conv0, [], -1⟩ (k + ks2.length) r
  | [], ks1, k, r, _, _, _ => by rw [List.append_nil]; rfl
  | q :: ks2, ks1, k, r, nd, few, ok => by
    have st : rdTake (kindWords q) ⟨ks1, 0, conv0, [], -1⟩ = some ⟨ks1 ++ [q], 0, conv0, [], -1⟩ := by
      rw [rd_zero rfl, if_pos (show (kindWords q).head? = some (Str.ofString "kind") from rfl)]
      unfold tkKind
      rw [kindIn_back (ok q (.head _))]
      refine if_neg fun z => ?_
      rcases z with z | z
      · have z : q.name ∈ ks1.map (·.name) := z
        rw [List.map_append, List.nodup_append] at nd
        exact nd.2.2 _ z _ (List.mem_map.mpr ⟨q, .head _, rfl⟩) rfl
      · have z : ks1.length = 5 := z
        rw [List.length_append, List.length_cons] at few
        omega
    rw [List.map_cons, List.cons_append, run_cons st, run_kinds ks2 (ks1 ++ [q]) (k + 1) r (by rw [List.append_assoc]; exact nd) (by rw [List.append_assoc]; exact few) fun u hu => ok u (.tail _ hu), List.append_assoc, List.length_cons]
    congr 1
    omega
theorem choose_back {d : RdD} {ch : Str × List (Str × V)} {x : Str × V} (h2 : 2 ≤ d.m) (h9 : d.m < 9) (hc : choices[d.m - 2]? = some ch) (hx : ∃ r, ch.2.filter (fun c => decide ([x.1] = [c.1])) = x :: r) : rdTake [ch.1, x.1] d = some (d.choose x.2) := by
  rw [rd_mid h2 h9]
  unfold tkChoice
  rw [hc]
  obtain ⟨r, hr⟩ := hx
  show (if ([ch.1, x.1] : List Str).head? = some ch.1 then (match ch.2.filter (fits [ch.1, x.1]) with
      | [] => none
      | c :: _ => some (d.choose c.2)) else none) = _
  rw [if_pos (show ([ch.1, x.1] : List Str).head? = some ch.1 from rfl)]
  have e : ch.2.filter (fits [ch.1, x.1]) = x :: r := hr
  rw [e]
theorem choose_at {ks : List KindD} {c0 : ConvD} (m : Nat) {ch : Str × List (Str × V)} {x : Str × V} (h2 : 2 ≤ m) (h9 : m < 9) (hc : choices[m - 2]? = some ch) (hx : ∃ r, ch.2.filter (fun c => decide ([x.1] = [c.1])) = x :: r) : rdTake [ch.1, x.1] ⟨ks, m, c0, [], -1⟩ = some ⟨ks, m + 1, setOpt (m - 2) x.2 c0, [], -1⟩ :=
  choose_back (d := ⟨ks, m, c0, [], -1⟩) h2 h9 hc hx
theorem run_opts {ks : List KindD} {c : ConvD} (hk : ks ≠ []) (ok : c.Ok) (k : Nat) (r : List (List Str)) : rdRun ⟨ks, 0, conv0, [], -1⟩ k (optWords c ++ r) = rdRun ⟨ks, 9, { c with fill := conv0.fill }, [], -1⟩ (k + 8) r := by
  obtain ⟨wholes, floats, together, doubles, again, slot, natural, home, tail, fill⟩ := c
  have ow := ok.wholes
  have of_ := ok.floats
  have s1 : rdTake [Str.ofString "registers", numS wholes, numS floats] ⟨ks, 0, conv0, [], -1⟩ = some ⟨ks, 2, { conv0 with wholes := wholes, floats := floats }, [], -1⟩ := by
    rw [rd_zero rfl, if_neg (show ¬ ([Str.ofString "registers", numS wholes, numS floats] : List Str).head? = some (Str.ofString "kind") from fun z => by
      have z := Option.some.inj z
      exact absurd z (by decide +kernel))]
    show (if Str.ofString "registers" = Str.ofString "registers" ∧ ks ≠ [] then (match numIn (numS wholes), numIn (numS floats) with
      | .int w, .int f => if w ≤ 3 ∧ f ≤ 3 then some (RdD.regs ⟨ks, 0, conv0, [], -1⟩ w f) else none
      | _, _ => none) else none) = _
    have w1 : numIn (numS wholes) = .int wholes := numIn_numS ow.1 (by have : wholes ≤ 3 := ow.2; omega)
    have f1 : numIn (numS floats) = .int floats := numIn_numS of_.1 (by have : floats ≤ 3 := of_.2; omega)
    rw [if_pos ⟨rfl, hk⟩, w1, f1]
    exact if_pos ⟨ow.2, of_.2⟩
  have s2 : ∀ c0, rdTake [Str.ofString "together", yesNo together] ⟨ks, 2, c0, [], -1⟩ = some ⟨ks, 3, { c0 with together := together }, [], -1⟩ := fun c0 => by
    cases together
    · exact choose_at (ks := ks) (c0 := c0) 2 (x := ("no", .bl false)) (ch := ("together", [("yes", .bl true), ("no", .bl false)])) (by decide) (by decide) rfl ⟨[], by decide +kernel⟩
    · exact choose_at (ks := ks) (c0 := c0) 2 (x := ("yes", .bl true)) (ch := ("together", [("yes", .bl true), ("no", .bl false)])) (by decide) (by decide) rfl ⟨[], by decide +kernel⟩
  have s3 : ∀ c0, rdTake [Str.ofString "doubles", doubles] ⟨ks, 3, c0, [], -1⟩ = some ⟨ks, 4, { c0 with doubles := doubles }, [], -1⟩ := fun c0 => by
    have h : doubles = Str.ofString "whole" ∨ doubles = Str.ofString "even" ∨ doubles = Str.ofString "split" := ok.doubles
    rcases h with h | h | h <;> subst h
    · exact choose_at (ks := ks) (c0 := c0) 3 (x := ("whole", .str "whole")) (ch := ("doubles", [("whole", .str "whole"), ("even", .str "even"), ("split", .str "split")])) (by decide) (by decide) rfl ⟨[], by decide +kernel⟩
    · exact choose_at (ks := ks) (c0 := c0) 3 (x := ("even", .str "even")) (ch := ("doubles", [("whole", .str "whole"), ("even", .str "even"), ("split", .str "split")])) (by decide) (by decide) rfl ⟨[], by decide +kernel⟩
    · exact choose_at (ks := ks) (c0 := c0) 3 (x := ("split", .str "split")) (ch := ("doubles", [("whole", .str "whole"), ("even", .str "even"), ("split", .str "split")])) (by decide) (by decide) rfl ⟨[], by decide +kernel⟩
  have s4 : ∀ c0, rdTake [Str.ofString "again", yesNo again] ⟨ks, 4, c0, [], -1⟩ = some ⟨ks, 5, { c0 with again := again }, [], -1⟩ := fun c0 => by
    cases again
    · exact choose_at (ks := ks) (c0 := c0) 4 (x := ("no", .bl false)) (ch := ("again", [("yes", .bl true), ("no", .bl false)])) (by decide) (by decide) rfl ⟨[], by decide +kernel⟩
    · exact choose_at (ks := ks) (c0 := c0) 4 (x := ("yes", .bl true)) (ch := ("again", [("yes", .bl true), ("no", .bl false)])) (by decide) (by decide) rfl ⟨[], by decide +kernel⟩
  have s5 : ∀ c0, rdTake [Str.ofString "slot", numS slot] ⟨ks, 5, c0, [], -1⟩ = some ⟨ks, 6, { c0 with slot := slot }, [], -1⟩ := fun c0 => by
    have h : slot = 4 ∨ slot = 8 := ok.slot
    rcases h with h | h <;> subst h
    · exact choose_at (ks := ks) (c0 := c0) 5 (x := ("4", .int 4)) (ch := ("slot", [("4", .int 4), ("8", .int 8)])) (by decide) (by decide) rfl ⟨[], by decide +kernel⟩
    · exact choose_at (ks := ks) (c0 := c0) 5 (x := ("8", .int 8)) (ch := ("slot", [("4", .int 4), ("8", .int 8)])) (by decide) (by decide) rfl ⟨[], by decide +kernel⟩
  have s6 : ∀ c0, rdTake [Str.ofString "natural", yesNo natural] ⟨ks, 6, c0, [], -1⟩ = some ⟨ks, 7, { c0 with natural := natural }, [], -1⟩ := fun c0 => by
    cases natural
    · exact choose_at (ks := ks) (c0 := c0) 6 (x := ("no", .bl false)) (ch := ("natural", [("yes", .bl true), ("no", .bl false)])) (by decide) (by decide) rfl ⟨[], by decide +kernel⟩
    · exact choose_at (ks := ks) (c0 := c0) 6 (x := ("yes", .bl true)) (ch := ("natural", [("yes", .bl true), ("no", .bl false)])) (by decide) (by decide) rfl ⟨[], by decide +kernel⟩
  have s7 : ∀ c0, rdTake [Str.ofString "home", numS home] ⟨ks, 7, c0, [], -1⟩ = some ⟨ks, 8, { c0 with home := home }, [], -1⟩ := fun c0 => by
    have h : home = 0 ∨ home = 16 ∨ home = 32 := ok.home
    rcases h with h | h | h <;> subst h
    · exact choose_at (ks := ks) (c0 := c0) 7 (x := ("0", .int 0)) (ch := ("home", [("0", .int 0), ("16", .int 16), ("32", .int 32)])) (by decide) (by decide) rfl ⟨[], by decide +kernel⟩
    · exact choose_at (ks := ks) (c0 := c0) 7 (x := ("16", .int 16)) (ch := ("home", [("0", .int 0), ("16", .int 16), ("32", .int 32)])) (by decide) (by decide) rfl ⟨[], by decide +kernel⟩
    · exact choose_at (ks := ks) (c0 := c0) 7 (x := ("32", .int 32)) (ch := ("home", [("0", .int 0), ("16", .int 16), ("32", .int 32)])) (by decide) (by decide) rfl ⟨[], by decide +kernel⟩
  have s8 : ∀ c0, rdTake [Str.ofString "tail", tail] ⟨ks, 8, c0, [], -1⟩ = some ⟨ks, 9, { c0 with tail := tail }, [], -1⟩ := fun c0 => by
    have h : tail = Str.ofString "same" ∨ tail = Str.ofString "slots" := ok.tail
    rcases h with h | h <;> subst h
    · exact choose_at (ks := ks) (c0 := c0) 8 (x := ("same", .str "same")) (ch := ("tail", [("same", .str "same"), ("slots", .str "slots")])) (by decide) (by decide) rfl ⟨[], by decide +kernel⟩
    · exact choose_at (ks := ks) (c0 := c0) 8 (x := ("slots", .str "slots")) (ch := ("tail", [("same", .str "same"), ("slots", .str "slots")])) (by decide) (by decide) rfl ⟨[], by decide +kernel⟩
  have e : optWords ⟨wholes, floats, together, doubles, again, slot, natural, home, tail, fill⟩ ++ r = [Str.ofString "registers", numS wholes, numS floats] :: [Str.ofString "together", yesNo together] :: [Str.ofString "doubles", doubles] :: [Str.ofString "again", yesNo again] ::
    [Str.ofString "slot", numS slot] :: [Str.ofString "natural", yesNo natural] :: [Str.ofString "home", numS home] :: [Str.ofString "tail", tail] :: r := rfl
  rw [e, run_cons s1, run_cons (s2 _), run_cons (s3 _), run_cons (s4 _), run_cons (s5 _), run_cons (s6 _), run_cons (s7 _), run_cons (s8 _)]
end U
/-! ## the plain law: the reading of a written page, whole -/
namespace U
open PySem PySem.Spec PyProof.Rows L2 StX TL
theorem idx_mid {pre : List Str} {n : Str} {r : List Str} (h : n ∉ pre) : (pre ++ n :: r).idxOf n = pre.length := by
  induction pre with
  | nil => simp
  | cons a p ih =>
    have ha : a ≠ n := fun z => h (z ▸ List.mem_cons_self ..)
    rw [List.cons_append, List.idxOf_cons, show (a == n) = false by simpa using ha, List.length_cons]
    show (p ++ n :: r).idxOf n + 1 = _
    rw [ih fun z => h (List.mem_cons_of_mem _ z)]
theorem run_fills {ks : List KindD} {c1 : ConvD} {g : Str → FillD} : ∀ (rest pre : List Str) (fl : List (Str × FillD)) (last : Int) (k : Nat), ks.map (·.name) = pre ++ rest → (pre ++ rest).Nodup → last < pre.length → (∀ n ∈ rest, (g n).Ok) →
    ∃ last', rdRun ⟨ks, 9, c1, fl, last⟩ k ((rest.filter fun n => isTold (g n)).map fun n => fillWords n (g n)) = .ok ⟨ks, 9, c1, fl ++ (rest.filter fun n => isTold (g n)).map fun n => (n, g n), last'⟩
  | [], pre, fl, last, k, _, _, _, _ => ⟨last, by rw [List.filter_nil, List.map_nil, List.map_nil, List.append_nil]; rfl⟩
  | n :: rest, pre, fl, last, k, hn, nd, hl, ok => by
    have hn2 : ks.map (·.name) = (pre ++ [n]) ++ rest := by rw [hn, List.append_assoc]; rfl
    have nd2 : ((pre ++ [n]) ++ rest).Nodup := by rw [List.append_assoc]; exact nd
    have ok2 : ∀ u ∈ rest, (g u).Ok := fun u hu => ok u (.tail _ hu)
    have npre : n ∉ pre := fun z => by
      rw [List.nodup_append] at nd
      exact nd.2.2 _ z _ (List.mem_cons_self ..) rfl
    by_cases ht : isTold (g n) = true
    · rw [List.filter_cons, if_pos ht]
      obtain ⟨hw, i, hi, i3, i128⟩ := told_fill (ok n (.head _)) ht
      have hg : g n = ⟨(g n).word, .int i⟩ := by
        rw [← hi]
      obtain ⟨a1, a2, a3⟩ := num_facts (i := i) (by omega) (by omega)
      have hx : idxI (ks.map (·.name)) n = (pre.length : Int) := by
        unfold idxI
        rw [hn, idx_mid npre]
      have st : rdTake (fillWords n (g n)) ⟨ks, 9, c1, fl, last⟩ = some ⟨ks, 9, c1, fl ++ [(n, g n)], (pre.length : Int)⟩ := by
        rw [rd_nine rfl]
        unfold fillWords
        rw [hi]
        show (if Str.ofString "fill" = Str.ofString "fill" ∧ n ∈ ks.map (·.name) ∧ last < idxI (ks.map (·.name)) n ∧ ((g n).word = ZEROS ∨ (g n).word = SIGN) ∧ isExt (numS i) = true then some (⟨ks, 9, c1, fl ++ [(n, ⟨(g n).word, .int (valT (numS i))⟩)], idxI (ks.map (·.name)) n⟩ : RdD) else none) = _
        rw [if_pos ⟨rfl, by rw [hn]; simp, by rw [hx]; exact hl, hw, ext_iff.mpr ((countIn_iff (by decide)).mpr ⟨i, rfl, i3, i128⟩)⟩, a3, hx, ← hg]
      obtain ⟨last', h⟩ := run_fills rest (pre ++ [n]) (fl ++ [(n, g n)]) (pre.length : Int) (k + 1) hn2 nd2 (by rw [List.length_append]; show (pre.length : Int) < ((pre.length + 1 : Nat) : Int); omega) ok2
      refine ⟨last', ?_⟩
      rw [List.map_cons, List.map_cons, run_cons st, h, List.append_assoc]
      rfl
    · rw [List.filter_cons, if_neg ht]
      exact run_fills rest (pre ++ [n]) fl last k hn2 nd2 (by rw [List.length_append]; show last < ((pre.length + 1 : Nat) : Int); omega) ok2
theorem toldL_filter {g : Str → FillD} {n : Str} : ∀ (ns : List Str), n ∈ ns → (g n).Ok → toldL ((ns.filter fun n => isTold (g n)).map fun n => (n, g n)) n = g n := fun ns hn ok => by
  by_cases ht : isTold (g n) = true
  · induction ns with
    | nil => cases hn
    | cons a r ih =>
      rw [List.filter_cons]
      by_cases ha : a = n
      · subst ha
        rw [if_pos ht, List.map_cons, toldL_cons, if_pos rfl]
      · have hr : n ∈ r := (List.mem_cons.mp hn).resolve_left fun z => ha z.symm
        split
        · rw [List.map_cons, toldL_cons, if_neg ha]
          exact ih hr
        · exact ih hr
  · rw [toldL_none fun z => ?_]
    · rcases ok with ⟨q1, q2⟩ | ⟨q, _⟩
      · show (⟨FREE, .non⟩ : FillD) = ⟨(g n).word, (g n).ext⟩
        rw [q1, q2]
      · exfalso
        apply ht
        show decide ((g n).word ≠ FREE) = true
        rcases q with q | q <;> rw [q] <;> decide +kernel
    · obtain ⟨u, hu, e⟩ := List.mem_map.mp z
      obtain ⟨v, hv, rfl⟩ := List.mem_map.mp hu
      have e : v = n := e
      subst e
      exact ht (List.mem_filter.mp hv).2
/-- the same convention, over these kinds -/
structure SameC (ks : List KindD) (c c' : ConvD) : Prop where
  opt : { c with fill := conv0.fill } = { c' with fill := conv0.fill }
  fill : ∀ k ∈ ks, c.fill k.name = c'.fill k.name
theorem page_read {ks : List KindD} {c : ConvD} (h : PageOk ks c) : ∃ d, readText (textOf ks c) = .ok d ∧ d.ks = ks ∧ SameC ks (rdConv d) c := by
  obtain ⟨last', hf⟩ := run_fills (ks := ks) (c1 := { c with fill := conv0.fill }) (g := c.fill) (ks.map (·.name)) [] [] (-1) (0 + ks.length + 8) rfl h.nd (by decide) (fun n hn => by
    obtain ⟨k, hk, rfl⟩ := List.mem_map.mp hn
    exact h.fok k hk)
  have r0 : rdRun rd0 0 (pageWords ks c) = .ok ⟨ks, 9, { c with fill := conv0.fill }, ((ks.map (·.name)).filter fun n => isTold (c.fill n)).map fun n => (n, c.fill n), last'⟩ := by
    unfold pageWords
    have e1 := run_kinds ks [] 0 (optWords c ++ ((ks.map (·.name)).filter fun n => isTold (c.fill n)).map fun n => fillWords n (c.fill n)) h.nd h.few h.kok
    have e2 := run_opts h.ne h.cok (0 + ks.length) (((ks.map (·.name)).filter fun n => isTold (c.fill n)).map fun n => fillWords n (c.fill n))
    exact e1.trans (e2.trans hf)
  refine ⟨⟨ks, 9, { c with fill := conv0.fill }, ((ks.map (·.name)).filter fun n => isTold (c.fill n)).map fun n => (n, c.fill n), last'⟩, ?_, rfl, ⟨rfl, fun k hk => ?_⟩⟩
  · unfold readText
    rw [page_cut h, List.dropLast_concat, page_words h, r0]
    exact if_pos ⟨by simp, rfl⟩
  · exact toldL_filter _ (List.mem_map.mpr ⟨k, hk, rfl⟩) (h.fok k hk)
theorem ConvAt.page {K : Fg} {H : Hp} {a b : Addr} {as : List Addr} {ks : List KindD} {c : ConvD} (x : ConvAt K H a b as ks c) : PageOk ks c := by
  obtain ⟨_, ⟨_, _, few, some_, nd, ok⟩, cok, fok⟩ := x
  exact ⟨ok, nd, few, some_, cok, fok⟩
theorem ConvAt.same {K : Fg} {H : Hp} {a b : Addr} {as : List Addr} {ks : List KindD} {c c' : ConvD} (x : ConvAt K H a b as ks c) (s : SameC ks c c') : ConvAt K H a b as ks c' := by
  obtain ⟨⟨dx, cp, fp, es, h1, h2, h3, h4⟩, hb, ok, fok⟩ := x
  obtain ⟨c1, c2, c3, c4, c5, c6, c7, c8, c9, g⟩ := c
  obtain ⟨d1, d2, d3, d4, d5, d6, d7, d8, d9, g'⟩ := c'
  obtain ⟨so, sf⟩ := s
  injection so with e1 e2 e3 e4 e5 e6 e7 e8 e9
  have sf : ∀ k ∈ ks, g k.name = g' k.name := sf
  dsimp only at e1 e2 e3 e4 e5 e6 e7 e8 e9
  subst e1 e2 e3 e4 e5 e6 e7 e8 e9
  refine ⟨⟨dx, cp, fp, es, h1, h2, h3, h4.trans (List.map_congr_left fun k hk => ?_)⟩, hb, ⟨ok.wholes, ok.floats, ok.doubles, ok.slot, ok.home, ok.tail⟩, fun k hk => ?_⟩
  · have e : g k.name = g' k.name := sf k hk
    show (k.name, g k.name) = (k.name, g' k.name)
    rw [e]
  · have e : g k.name = g' k.name := sf k hk
    have f : (g k.name).Ok := fok k hk
    show (g' k.name).Ok
    rw [← e]
    exact f
end U
/-! ## the law: what stays while the pot is drawn from -/
namespace U
open PySem PySem.Spec PyProof.Rows L2 StX TL
theorem ExP.keep {p : Addr} {H H' : Hp} (hp : Pot H p) (e : ExP p H H') {a : Addr} {o : HO} (h : H a = Option.some o) (n : ∀ l, o ≠ .lst l) : H' a = Option.some o := e _ _ (hp.ne_of h n) h
theorem KindsAt.exP {p d : Addr} {H H' : Hp} {es : List KEnt} (x : KindsAt H d es) (hp : Pot H p) (e : ExP p H H') : KindsAt H' d es :=
  ⟨e.keep hp x.dk (by intro _ z; cases z), fun u hu => e.keep hp (x.tp u hu) (by intro _ z; cases z), x.nd, x.ok, x.few, x.some_⟩
theorem PlanAt.exP {p d : Addr} {H H' : Hp} {c : ConvD} {es : List KEnt} (x : PlanAt H d c es) (hp : Pot H p) (e : ExP p H H') : PlanAt H' d c es := by
  obtain ⟨⟨fp, ps, h1, h2, h3, h4⟩, ok, fok⟩ := x
  exact ⟨⟨fp, ps, e.keep hp h1 (by intro _ z; cases z), e.keep hp h2 (by intro _ z; cases z), fun u hu => e.keep hp (h3 u hu) (by intro _ z; cases z), h4⟩, ok, fok⟩
theorem BookAt.exP {K : Fg} {p b : Addr} {H H' : Hp} {as : List Addr} {ks : List KindD} (x : BookAt K H b as ks) (hp : Pot H p) (e : ExP p H H') : BookAt K H' b as ks := by
  obtain ⟨⟨dx, t, q, r, rs, h1, h2, h3, h4, h5⟩, hk, few, some_, nd, ok⟩ := x
  exact ⟨⟨dx, t, q, r, rs, e.keep hp h1 (by intro _ z; cases z), e.keep hp h2 (by intro _ z; cases z), e.keep hp h3 (by intro _ z; cases z), e.keep hp h4 (by intro _ z; cases z), paired_mono (fun _ _ h => e.keep hp h (by intro _ z; cases z)) h5⟩,
    paired_mono (fun _ _ ⟨dk, h⟩ => ⟨dk, e.keep hp h (by intro _ z; cases z)⟩) hk, few, some_, nd, ok⟩
theorem FillsAt.exP {K : Fg} {p d : Addr} {H H' : Hp} {es : List Ent} (x : FillsAt K H d es) (hp : Pot H p) (e : ExP p H H') : FillsAt K H' d es :=
  ⟨e.keep hp x.1 (by intro _ z; cases z), fun u hu => let ⟨dx, h⟩ := x.2 u hu; ⟨dx, e.keep hp h (by intro _ z; cases z)⟩⟩
theorem ConvAt.exP {K : Fg} {p a b : Addr} {H H' : Hp} {as : List Addr} {ks : List KindD} {c : ConvD} (x : ConvAt K H a b as ks c) (hp : Pot H p) (e : ExP p H H') : ConvAt K H' a b as ks c := by
  obtain ⟨⟨dx, cp, fp, es, h1, h2, h3, h4⟩, hb, ok, fok⟩ := x
  exact ⟨⟨dx, cp, fp, es, e.keep hp h1 (by intro _ z; cases z), e.keep hp h2 (by intro _ z; cases z), h3.exP hp e, h4⟩, hb.exP hp e, ok, fok⟩
theorem rows_ne (ks : List KindD) (c : ConvD) : textLines ks c ≠ [] := fun z => by
  have := congrArg List.length z
  unfold textLines at this
  rw [List.length_append, List.length_append] at this
  have h8 : (optLines c).length = 8 := rfl
  rw [h8] at this
  have : ks.length + ((8 : Nat) + (fillLines c.fill (ks.map (·.name))).length) = 0 := by
    rw [List.length_map] at this
    exact this
  omega
theorem page_str (ks : List KindD) (c : ConvD) : Txt.join (Str.ofString "\n") (textLines ks c) ++ Str.ofString "\n" = textOf ks c := by
  unfold textOf
  rw [← lf_join]
  have ne := rows_ne ks c
  generalize textLines ks c = rs at ne
  refine ext_tl ?_
  show tl (Txt.join LF rs ++ LF) = tl (Txt.join LF (rs ++ [Str.empty]))
  rw [tl_append, join_eq, join_eq, tl_join, tl_join, tl_LF, List.map_append]
  have e0 : [Str.empty].map tl = [[]] := rfl
  rw [e0]
  have ne2 : rs.map tl ≠ [] := fun z => ne (List.map_eq_nil_iff.mp z)
  generalize rs.map tl = ps at ne2
  induction ps with
  | nil => exact absurd rfl ne2
  | cons q r ih =>
    cases r with
    | nil => rfl
    | cons a s =>
      rw [List.cons_append, joinL_cons (p := q) (l := a :: s) (List.cons_ne_nil _ _), joinL_cons (p := q) (l := a :: s ++ [[]]) (by simp), ← ih (List.cons_ne_nil _ _)]
      simp only [List.append_assoc]
/-- rows of bounded lengths, joined by ends of lines -/
theorem rows_join' {n k : Nat} {rs : List Str} (h1 : rs.length ≤ n) (h2 : ∀ r ∈ rs, r.length ≤ k ∧ PyData.strOk r = true) : ((rs.map (·.length)).sum + rs.length * (Str.ofString "\n").length ≤ n * k + n) ∧ (Txt.join (Str.ofString "\n") rs).length ≤ n * k + n ∧ PyData.strOk (Txt.join (Str.ofString "\n") rs) = true := by
  have z := sum_le (n := k) (rs.map (·.length)) fun x hx => by
    obtain ⟨r, hr, rfl⟩ := List.mem_map.mp hx
    exact (h2 r hr).1
  rw [List.length_map] at z
  have l1 : (Str.ofString "\n").length = 1 := rfl
  have zz : rs.length * k ≤ n * k := Nat.mul_le_mul_right k h1
  refine ⟨by rw [l1]; omega, ?_, join_ok sep_LF fun w hw => (h2 w hw).2⟩
  have := join_le sep_LF rs
  unfold tot at this
  show (Txt.join LF rs).length ≤ _
  omega
theorem rows_join {n k : Nat} {rs : List Str} (h : RowsB n k rs) : ((rs.map (·.length)).sum + rs.length * (Str.ofString "\n").length ≤ n * k + n) ∧ (Txt.join (Str.ofString "\n") rs).length ≤ n * k + n ∧ PyData.strOk (Txt.join (Str.ofString "\n") rs) = true := rows_join' h.2.1 h.2.2
theorem page_rows {ks : List KindD} {c : ConvD} (h : PageOk ks c) : RowsB 18 40 (textLines ks c) := ⟨rows_ne ks c, textLines_few h.few, page_ok h⟩
theorem page_len {ks : List KindD} {c : ConvD} (h : PageOk ks c) : (textOf ks c).length ≤ 800 ∧ PyData.strOk (textOf ks c) = true := by
  obtain ⟨_, h2, h3⟩ := rows_join (page_rows h)
  rw [← page_str]
  refine ⟨?_, app_ok h3 (by decide +kernel)⟩
  rw [str_len]
  have l1 : (Str.ofString "\n").length = 1 := rfl
  omega
theorem ents_of2 {K : Fg} {H : Hp} {rs : List Addr} {ps : List Ent} (pr : Paired (fun a (e : Ent) => ∃ f, H a = some (.tup [.str e.1, .ref f]) ∧ FillAt K H f e.2.2) rs ps) :
    ∃ es' : List Ent, Paired (fun p kv => SqT K H p [kV kv.1, kv.2]) rs (entK es') ∧ (es'.map fun e => (e.1, e.2.2)) = (ps.map fun e => (e.1, e.2.2)) ∧ ∀ e ∈ es', FillAt K H e.2.1 e.2.2 := by
  induction pr with
  | nil => exact ⟨[], .nil, rfl, fun e h => absurd h List.not_mem_nil⟩
  | cons r t ih =>
    rename_i a b l m
    obtain ⟨f, h1, h2⟩ := r
    obtain ⟨es', q1, q2, q3⟩ := ih
    refine ⟨(b.1, f, b.2.2) :: es', .cons (SqT.of h1) q1, ?_, fun e he => ?_⟩
    · rw [List.map_cons, List.map_cons, q2]
    · rcases List.mem_cons.mp he with z | z
      · rw [z]
        exact h2
      · exact q3 e z
theorem plan_free {f : FillD} (ok : f.Ok) : (f.word = FREE ∧ f = freeF) ∨ (f.word ≠ FREE ∧ f = ⟨f.word, .int (topI f)⟩) := by
  rcases ok with ⟨q1, q2⟩ | ⟨q, i, hi, _⟩
  · left
    refine ⟨q1, ?_⟩
    show (⟨f.word, f.ext⟩ : FillD) = freeF
    rw [q1, q2]
    rfl
  · right
    refine ⟨fun z => ?_, ?_⟩
    · rw [z] at q
      rcases q with q | q <;> exact absurd q (by decide +kernel)
    · show (⟨f.word, f.ext⟩ : FillD) = ⟨f.word, .int (topI f)⟩
      unfold topI
      rw [hi]
end U
/-! ## the law: _law_right -/
namespace U
open PySem PySem.Spec PyProof.Rows L2 StX TL
section
variable {W : Wd}
abbrev riN : List Str := ["_law_pot_here", "_law_kinds_here", "_law_plan_here", "_law_book_here", "_law_rows", "_law_made", "_law_page", "_law_told_here", "_law_whole", "_law_turn", "_law_spoilt_here", "_law_odd", "_law_label", "_law_told_fill"]
theorem sc_law_right : FnScope riN ["_law_pot_here"] (defScope s__law_right) := ⟨rfl, rfl, rfl, by decide +kernel, rfl, by decide +kernel, by decide +kernel⟩
def sp_law_right : Sp := fun vs H Q _ => ∃ p, vs = [.ref p] ∧ Pot H p ∧ ∀ H', ExP p H H' → Q (.bl true) H'
theorem ok_law_right (T : Tx W) : ∃ fd, FnG W.P W.w W.K W.mg W.base CX0 15 (ga W.K "_law_right") fd ["_law_pot_here"] sp_law_right ∧ Binds W.K fd ["_law_pot_here"] [] := by
  obtain ⟨fd, F⟩ := T.d__law_right
  obtain ⟨fdT, FT, bT⟩ := ok_law_is_told T
  obtain ⟨_, dT⟩ := T.d__law_is_told
  have kpT := dT.kp
  obtain ⟨fdE, FE, bE⟩ := (ok_Conv_eq T).ex
  obtain ⟨fdB, FB, bB⟩ := (ok_Book_eq T).ex
  obtain ⟨fdt, Ft, _, kt⟩ := ok_text_of_kw T
  obtain ⟨fdr, Fr, _, kr⟩ := ok_read_kw T
  have kpt := (ok_text_of T).kp
  have kpr := (ok_read T).kp
  refine ⟨fd, ?_, F.bindsN fun _ _ _ _ _ _ us hl => match us, hl with | [_], _ => rfl⟩
  refine okG F sc_law_right (fun vs H Q E h => ?_) (fun cdv A outer s H vs Q E hA hr h => ?_)
  · obtain ⟨p, rfl, _⟩ := h
    rfl
  · obtain ⟨p, rfl, hp, q⟩ := h
    have nN := sc_law_right.nd
    refine ⟨_, PSs.nox (pss_cons (ps_set (i := 1) nN rfl (Or.inl rfl) (u_call (ok_law_kinds T) T.g__law_kinds hr (pa_cons (pv 0) (pa_cons (pe_op op_add pe_int (u_call (ok_law_draw T) T.g__law_draw hr (pa_cons (pv 0) (pa_cons pe_int pa_nil)))) pa_nil))))
      (pss_cons (ps_set (i := 2) nN rfl (Or.inl rfl) (u_call (ok_law_plan T) T.g__law_plan hr (pa_cons (pv 0) (pa_cons (pv 1) pa_nil))))
      (pss_cons (ps_par (i := 3) (j := 4) (by rfl) nN rfl rfl (by decide) rfl rfl (pa_cons (u_call (ok_law_book T) T.g__law_book hr (pa_cons (pv 1) pa_nil)) (pa_cons (u_call (ok_law_lines T) T.g__law_lines hr (pa_cons (pv 1) (pa_cons (pv 2) pa_nil))) pa_nil)) (by rfl))
      (pss_cons (ps_par (i := 5) (j := 6) (by rfl) nN rfl rfl (by decide) rfl rfl (pa_cons (u_call (ok_law_conv T) T.g__law_convention hr (pa_cons (pv 3) (pa_cons (pv 2) pa_nil))) (pa_cons (pe_op op_add_str (pe_bm PySem.F.plainAttrs_str PySem.F.slot_str_join PySem.F.type_str_join mt_join pe_str (pa_cons (pv 4) pa_nil)) pe_str) pa_nil)) (by rfl))
      (pss_cons (ps_if (PW.pt (pw_or (pt_cmpR op_ne (u_call (ok_text_of T) T.g_text_of hr (pa_cons (pv 5) pa_nil)) (pv 6) (nomark _))
          (pw_or (pt_cmpR op_ne (pe_callK1 Ft (hr.mono (by decide)) (by rfl) T.g_text_of kpt kt pass0 (pk_cons (pv 5) pk_nil)) (pv 6) (nomark _))
          (pw_or1 (pt_cmpR op_ne (u_call (ok_law_wrong T) T.g__law_wrong hr (pa_cons (pv 6) pa_nil)) pe_int (nomark _)))))) (pss_one (ps_ret pe_bl)) pss_nil)
      (pss_cons (ps_set (i := 7) nN rfl (Or.inl rfl) (pe_callK1 Fr (hr.mono (by decide)) (by rfl) T.g_read_convention kpr kr passF (pk_cons (pv 6) pk_nil)))
      (pss_cons (ps_if (PW.pt (pw_or (pt_cmpR (op_ownNe T.eq_Convention FE (hr.mono (by decide)) bE) (pv 7) (pv 5) (nomark _))
          (pw_or (pt_cmpR (op_ownNe T.eq_Book FB (hr.mono (by decide)) bB) (u_prop (ok_Convention_book T) T.cls_Convention T.p_Convention_book hr (pv 7)) (pv 3) (nomark _))
          (pw_or (pt_cmpR op_ne (u_call (ok_text_of T) T.g_text_of hr (pa_cons (pv 7) pa_nil)) (pv 6) (nomark _))
          (pw_or1 (pt_not (pt_cmpR (op_ownEq T.eq_Convention FE (hr.mono (by decide)) bE) (u_callN (ok_read T) T.g_read_convention hr (pa_cons (pv 6) pa_nil)) (pv 7) (nomark _)))))))) (pss_one (ps_ret pe_bl)) pss_nil)
      (pss_cons (ps_set (i := 8) nN rfl (Or.inl rfl) (pe_lock (pe_callTy (call_dictP rfl) (by rfl) T.f_dict (by decide +kernel) (pa_cons (pe_lc (own := [("_law_label", 12), ("_law_told_fill", 13)]) (g := gTup W.K 2 (gCons (gName 12) (gCons (gName 13) gNil))) (tt := tYes) rfl nN (pi_items (pe_dget (hu_of hr) (pv 2) pe_str (fun _ _ => rfl))) (blkOk_by (N := riN) (sc := defScope s__law_right) (by decide +kernel))
          (fun _ _ _ _ _ => pg_tup rfl (pgs_cons (pg_name (i := 12) nN rfl (Or.inl rfl)) (pgs_cons (pg_name (i := 13) nN rfl (Or.inl rfl)) pgs_nil))) (fun _ _ _ _ _ => pts_nil)
          (fun _ _ _ _ _ => pe_tup (pa_cons (pv 12) (pa_cons (pe_ifExp (pt_cmpR op_eq (pe_ix (r := rIxT W.K) ix_tup (pv 13) pe_int (fun _ _ => rfl)) pe_str (nomark _)) (u_make0D (ok_Fill_init0 T) T.mk_Fill T.g_Fill hr) (u_make (ok_Fill_init T) T.mk_Fill T.g_Fill hr (pa_cons (pe_ix (r := rIxT W.K) ix_tup (pv 13) pe_int (fun _ _ => rfl)) (pa_cons (pe_ix (r := rIxT W.K) ix_tup (pv 13) pe_int (fun _ _ => rfl)) pa_nil)))) pa_nil)))) pa_nil))))
      (pss_cons (ps_if (pt_cmpR op_ne (u_call (ok_text_of T) T.g_text_of hr (pa_cons (pe_methKw (pv 5) T.cls_Convention T.m_Convention_changed (ok_changed_fills T) (hr.mono (by decide)) pass0 (pk_cons (pv 8) pk_nil)) pa_nil)) (pv 6) (nomark _)) (pss_one (ps_ret pe_bl)) pss_nil)
      (pss_cons (ps_for PassesOwn.never rfl (pi_range1 (by rfl) T.f_range (pa_cons pe_int pa_nil)) (pg_name (i := 9) nN rfl (Or.inl rfl))
        (pss_cons (ps_set (i := 10) nN rfl (Or.inl rfl) (pe_bm PySem.F.plainAttrs_str PySem.F.slot_str_join PySem.F.type_str_join mt_join pe_str (pa_cons (u_call (ok_law_spoilt T) T.g__law_spoilt hr (pa_cons (pv 0) (pa_cons (pv 4) pa_nil))) pa_nil)))
        (pss_cons (ps_if (PW.pt (pw_or (pt_not (pt_val (pe_callG FT (by exact hA) hr (by rfl) T.g__law_is_told kpT bT pass0 (pa_cons (pe_op op_add_str (pv 10) pe_str) pa_nil))))
          (pw_or (pt_not (pt_val (pe_callG FT (by exact hA) hr (by rfl) T.g__law_is_told kpT bT pass0 (pa_cons (pv 10) pa_nil))))
          (pw_or1 (pt_not (pt_val (pe_callG FT (by exact hA) hr (by rfl) T.g__law_is_told kpT bT pass0 (pa_cons (pe_op op_add_str (pv 10) pe_str) pa_nil)))))))) (pss_one (ps_ret pe_bl)) pss_nil)
        (pss_one (ps_if (pt_not (pt_val (pe_callG FT (by exact hA) hr (by rfl) T.g__law_is_told kpT bT pass0 (pa_cons (pe_op op_add_str (pe_bm PySem.F.plainAttrs_str PySem.F.slot_str_join PySem.F.type_str_join mt_join pe_str (pa_cons (pe_slice sl_list (pv 4) po_none (po_some (u_call (ok_law_draw T) T.g__law_draw hr (pa_cons (pv 0) (pa_cons (pe_op op_add (pe_callB call_len_seq (by rfl) T.f_len (by decide +kernel) (pa_cons (pv 4) pa_nil)) pe_int) pa_nil))))) pa_nil)) pe_str) pa_nil)))) (pss_one (ps_ret pe_bl)) pss_nil)))))
      (pss_cons (ps_for PassesOwn.never rfl (pi_list (pe_lst (pa_cons pe_non (pa_cons pe_int (pa_cons pe_bl (pa_cons (pe_lst (pa_cons pe_str pa_nil)) (pa_cons (pe_tup pa_nil) (pa_cons (pv 5) pa_nil)))))))) (pg_name (i := 11) nN rfl (Or.inl rfl))
        (pss_one (ps_if (pt_cmpR (op_neD (u64 hr)) (u_call (ok_law_told T) T.g__law_told hr (pa_cons (pv 11) pa_nil)) (pe_lst (pa_cons pe_str (pa_cons pe_int pa_nil))) (nomark _)) (pss_one (ps_ret pe_bl)) pss_nil)))
      (pss_one (ps_ret (pe_and (pe_callG FT (by exact hA) hr (by rfl) T.g__law_is_told kpT bT pass0 (pa_cons pe_str pa_nil)) (pe_and (pe_callG FT (by exact hA) hr (by rfl) T.g__law_is_told kpT bT pass0 (pa_cons pe_str pa_nil)) (pe_one (pe_cmpR op_eq (u_call (ok_text_of T) T.g_text_of hr (pa_cons (pv 5) pa_nil)) (pv 6) (nomark _)))))))))))))))))), ?_⟩
    refine ⟨_, rfl, _, rfl, p, 5, rfl, hp, by decide, by decide, fun H1 d d0 d5 e1 p1 => ⟨_, _, rfl, rfl, p, _, rfl, p1, by omega, by omega, fun H2 dk es e2 p2 ndk hk => ?_⟩⟩
    refine ⟨_, rfl, _, rfl, p, dk, es, rfl, p2, hk, fun H3 pl c e3 p3 hpl => ?_⟩
    have hk3 := hk.exP p2 e3
    refine ⟨_, rfl, dk, es, rfl, hk3, fun H4 b as e4 hB => ⟨_, rfl, _, rfl, dk, pl, es, c, rfl, hk3.exP p3 e4.p, hpl.exP p3 e4.p, fun H5 l e5 nl hl => ⟨_, _, rfl, ?_⟩⟩⟩
    have p4 := p3.ex e4
    have p5 := p4.ex e5
    have hB5 := hB.ex_mono e5
    have hpl5 := (hpl.exP p3 e4.p).exP p4 e5.p
    have lp : l ≠ p := (p4.ne nl).symm
    have eH5 := (((e1.trans e2).trans e3).trans e4.p).trans e5.p
    refine ⟨_, rfl, _, rfl, b, pl, as, es, c, rfl, hB5, hpl5, fun H6 x e6 hC => ?_⟩
    have p6 := p5.ex e6
    have hl6 := e6 _ _ hl
    have hpl6 := hpl5.exP p5 e6.p
    have eH6 := eH5.trans e6.p
    have pg := hC.page
    have pstr := page_str (es.map (·.2)) c
    have prow := page_rows pg
    have plen := page_len pg
    obtain ⟨j1, j2, j3⟩ := rows_join prow
    obtain ⟨d0', hrd, hks, hsame⟩ := page_read pg
    have ttr : lawWrong (textOf (es.map (·.2)) c) = 0 := (told_all _).2.2 _ hrd
    refine ⟨rfl, _, rfl, Str.ofString "\n", l, _, rfl, rfl, .inl (SqL.of hl6), by omega, _, _, rfl, rfl, by rw [sizeLine_eq]; have l1 : (Str.ofString "\n").length = 1 := rfl; omega, ⟨_, _, rfl, ?_⟩⟩
    rw [pstr]
    refine ⟨_, rfl, x, b, as, _, c, rfl, hC, fun H7 e7 => ⟨_, rfl, rfl, _, rfl, ?_⟩⟩
    refine iteB (c := !_) (fun z => ?_) (fun _ => ?_)
    · exfalso
      rw [decide_eq_true rfl] at z
      cases z
    have hC7 := hC.ex_mono e7
    refine ⟨_, rfl, _, rfl, x, b, as, _, c, rfl, hC7, fun H8 e8 => ⟨_, rfl, rfl, _, rfl, ?_⟩⟩
    refine iteB (c := !_) (fun z => ?_) (fun _ => ?_)
    · exfalso
      rw [decide_eq_true rfl] at z
      cases z
    refine ⟨_, rfl, _, rfl, Nat.le_trans plen.1 (by decide), plen.2, fun H9 e9 => ⟨rfl, _, rfl, ?_⟩⟩
    refine iteB (c := !_) (fun z => ?_) (fun _ => ?_)
    · exfalso
      rw [ttr, eI] at z
      exact absurd z (by decide)
    have e69 := (e7.trans e8).trans e9
    have hC9 := hC.ex_mono e69
    refine ⟨_, rfl, _, rfl, .str _, rfl, .inl ⟨_, rfl, Nat.le_trans plen.1 (by decide), plen.2, fun n hn => ?_, fun d hd H10 y b' as' e10 cv => ?_⟩⟩
    · rw [hrd] at hn
      cases hn
    have ed : d0' = d := by
      rw [hrd] at hd
      injection hd
    subst ed
    rw [hks] at cv
    have cy := cv.same hsame
    clear cv
    have hC10 := hC9.ex_mono e10
    have hB10 := ((hB5.ex_mono e6).ex_mono e69).ex_mono e10
    obtain ⟨⟨dy, cpy, fpy, ey, hy1, _⟩, hBy, _, _⟩ := id cy
    obtain ⟨⟨dx, cpx, fpx, ex_, hx1, _⟩, _, _, _⟩ := id hC10
    obtain ⟨⟨dby, _, _, _, _, hby1, _⟩, _⟩ := id hBy
    obtain ⟨⟨dbb, _, _, _, _, hbb1, _⟩, _⟩ := id hB10
    refine ⟨_, rfl, _, rfl, y, _, _, x, _, _, rfl, rfl, hy1, hx1, y, x, b', b, as', as, _, c, rfl, cy, hC10, fun H11 e11 => ⟨true, rfl, _, rfl, ?_⟩⟩
    refine iteB (c := !_) (fun z => by cases z) (fun _ => ?_)
    have cy11 := cy.ex_mono e11
    have hB11 := hB10.ex_mono e11
    refine ⟨_, rfl, y, _, _, rfl, e11 _ _ hy1, y, _, _, _, rfl, e11 _ _ hy1, rfl, _, rfl, b', _, _, b, _, _, rfl, rfl, e11 _ _ hby1, e11 _ _ hbb1, b', b, as', as, _, rfl, hBy.ex_mono e11, hB11, true, rfl, _, rfl, ?_⟩
    refine iteB (c := !_) (fun z => by cases z) (fun _ => ?_)
    refine ⟨_, rfl, y, b', as', _, c, rfl, cy11, fun H12 e12 => ⟨_, rfl, rfl, _, rfl, ?_⟩⟩
    refine iteB (c := !_) (fun z => ?_) (fun _ => ?_)
    · exfalso
      rw [decide_eq_true rfl] at z
      cases z
    refine ⟨_, rfl, .str _, rfl, .inl ⟨_, rfl, Nat.le_trans plen.1 (by decide), plen.2, fun n hn => ?_, fun d hd H13 y2 b2 as2 e13 cv => ?_⟩⟩
    · rw [hrd] at hn
      cases hn
    have ed : d0' = d := by
      rw [hrd] at hd
      injection hd
    subst ed
    rw [hks] at cv
    have cy2 := cv.same hsame
    clear cv
    have cy13 := (cy11.ex_mono e12).ex_mono e13
    obtain ⟨⟨dy2, _, _, _, hy2, _⟩, _, _, _⟩ := id cy2
    refine ⟨_, rfl, y2, _, _, y, _, _, rfl, rfl, hy2, e13 _ _ (e12 _ _ (e11 _ _ hy1)), y2, y, b2, b', as2, as', _, c, rfl, cy2, cy13, fun H14 e14 => ⟨true, rfl, _, rfl, ?_⟩⟩
    refine iteB (c := !_) (fun z => by cases z) (fun _ => ?_)
    have e1014 := ((e11.trans e12).trans e13).trans e14
    have eAll : Ex H6 H14 := (e69.trans e10).trans e1014
    have hC14 := hC.ex_mono eAll
    have p14 := p6.ex eAll
    have hl14 := eAll _ _ hl6
    have hpl14 := hpl6.exP p6 eAll.p
    have eH14 := eH6.trans eAll.p
    have hB14 := hB11.ex_mono ((e12.trans e13).trans e14)
    obtain ⟨⟨fp, ps, hd14, hfp14, htp14, hps⟩, _, pfok⟩ := id hpl14
    have few : es.length ≤ 5 := by
      have := pg.few
      rw [List.length_map] at this
      exact this
    have lps : ps.length = es.length := by
      have z := congrArg List.length hps
      rw [List.length_map, List.length_map] at z
      exact z
    have dfp : pl ≠ fp := fun z => by
      rw [z, hfp14] at hd14
      injection hd14 with hd14
      injection hd14 with hd14
      have z1 := congrArg List.length hd14
      unfold entK at z1
      rw [List.length_map] at z1
      have z2 : ((kw10.map Sum.inr : List Key).zip (valsC c (.ref fp))).length = 10 := rfl
      rw [z2] at z1
      omega
    have pok : ∀ e ∈ ps, e.2.2.Ok := fun e he => by
      have z : (e.1, e.2.2) ∈ es.map fun e => (e.2.name, c.fill e.2.name) := by
        rw [← hps]
        exact List.mem_map.mpr ⟨e, he, rfl⟩
      obtain ⟨u, hu, eu⟩ := List.mem_map.mp z
      have z2 : c.fill u.2.name = e.2.2 := congrArg Prod.snd eu
      rw [← z2]
      exact pfok u hu
    have ndk : (es.map (·.2.name)).Nodup := by
      have z3 := pg.nd
      rw [List.map_map] at z3
      exact z3
    refine ⟨fp, _, hfp14, True.intro, fun od => ⟨_, rfl, pl, _, rfl, .inl ⟨_, Sum.inr "fills", .inl ((upd_ne dfp).trans hd14), rfl, (show valV ((kw10.map Sum.inr : List Key).zip (valsC c (.ref fp))) (Sum.inr "fills") = some (.ref fp) by kernel_rfl).symm⟩, fp, od, _, rfl, upd_same, fun D hD => ?_⟩⟩
    have tpL : ∀ e ∈ ps, upd H14 fp (.frz od (.dK (entK ps))) e.2.1 = some (.tup (planF e.2.2)) := fun e he => by
      rw [upd_ne (ne_of (htp14 e he) hfp14 (by intro z; cases z))]
      exact htp14 e he
    have dL := upd_same (H := H14) (a := fp) (o := .frz od (.dK (entK ps)))
    have hHL : ∃ HL : Hp, HL = upd H14 fp (.frz od (.dK (entK ps))) := ⟨_, rfl⟩
    obtain ⟨HL, hHL⟩ := hHL
    have exL : ∀ {H'}, Ex HL H' → Ex H14 (upd H' fp (.dK (entK ps))) := fun {H'} e => by
      rw [hHL] at e
      exact e.unlock hfp14
    rw [← hHL] at tpL dL hD ⊢
    clear hHL
    refine lc_objs (walk_items (kvs := entK ps)) ps (by unfold entK; rw [List.length_map]) (by unfold entK; rw [List.length_map]; omega) hD (fun a (e : Ent) H => ∃ f, H a = some (.tup [.str e.1, .ref f]) ∧ FillAt W.K H f e.2.2) (fun a k Ha Hb xs r hd e => ?_) (fun Hb e => e _ _ dL)
      (fun i y e Hb Hb' Rq R' hi hk2 ex hd hy r => ?_) (fun Hb rs2 e hd pr => ?_)
    · obtain ⟨f, r1, df, r2⟩ := r
      exact ⟨f, e _ _ (ne_of r1 hd (by intro z; cases z)) r1, df, e _ _ (ne_of r2 hd (by intro z; cases z)) r2⟩
    · obtain ⟨TT, a, v, rfl, hT, rfl, ha, hv⟩ := hy
      replace ha : ((entK ps)[i]?.map fun kv => kV kv.1) = some a := ha
      replace hv : ((entK ps)[i]?.map Prod.snd) = some v := hv
      unfold entK at ha hv
      rw [List.getElem?_map, hk2] at ha hv
      obtain rfl : V.str e.1 = a := Option.some.inj ha
      obtain rfl : V.ref e.2.1 = v := Option.some.inj hv
      have hm := List.mem_of_getElem? hk2
      have htT := (ex _ _ (tpL e hm))
      have eT : Ex Hb (upd Hb TT (.tup [V.str e.1, .ref e.2.1])) := (Ex.refl Hb).more hT
      refine ⟨TT, _, rfl, SqT.of upd_same, rfl, _, _, rfl, _, _, rfl, rfl, rfl, ?_⟩
      have htT' := eT _ _ htT
      generalize upd Hb TT (.tup [V.str e.1, .ref e.2.1]) = Ht at eT htT' ⊢
      refine ⟨_, rfl, _, rfl, e.2.1, _, _, .str e.2.2.word, rfl, rfl, SqT.of htT', rfl, rfl, _, rfl, ?_⟩
      have tail : ∀ (x dx2 : Addr) (H3 : Hp), Ht x = none → Ht dx2 = none → Ex (upd (upd Ht dx2 (.own x)) x (.ins (ga W.K "Fill") dx2 [])) H3 → ∀ p4, upd H3 x (.ins (ga W.K "Fill") dx2 (fillF e.2.2)) p4 = none →
          Rq (.ref p4) (upd (upd H3 x (.ins (ga W.K "Fill") dx2 (fillF e.2.2))) p4 (.tup [.str e.1, .ref x])) := fun x dx2 H3 nx ndx e3 p4 hp4 => by
        have up : ∀ {c : Addr} {o : HO}, Ht c = some o → upd (upd Ht dx2 (.own x)) x (.ins (ga W.K "Fill") dx2 []) c = some o := fun {c o} h => by
          rw [upd_ne (ne_of_none h nx), upd_ne (ne_of_none h ndx)]
          exact h
        have up3 : ∀ {c : Addr} {o : HO}, Ht c = some o → upd H3 x (.ins (ga W.K "Fill") dx2 (fillF e.2.2)) c = some o := fun {c o} h => by
          rw [upd_ne (ne_of_none h nx)]
          exact e3 _ _ (up h)
        have up4 : ∀ {c : Addr} {o u : HO}, Hb c = some o → upd (upd H3 x (.ins (ga W.K "Fill") dx2 (fillF e.2.2))) p4 u c = some o := fun {c o u} h => by
          rw [upd_ne (ne_of_none (up3 (eT _ _ h)) hp4)]
          exact up3 (eT _ _ h)
        obtain ⟨xs, hd⟩ := hd
        refine r p4 _ (fun c o hc h => up4 h) ((up4 hd).trans hd.symm) ⟨x, upd_same, dx2, ?_⟩
        rw [upd_ne (ne_of_none upd_same hp4)]
        exact upd_same
      rw [eS]
      rcases plan_free (pok e hm) with ⟨q1, q2⟩ | ⟨q1, q2⟩
      · refine iteB (fun _ => ?_) (fun z => absurd q1 (of_decide_eq_false z))
        refine fun x dx2 nx ndx ne => ⟨x, dx2, freeF, rfl, freeF_ok, upd_same, fun H3 e3 => ⟨rfl, by show 2 ≤ sizeLine; decide, fun p4 hp4 => ?_⟩⟩
        rw [← q2] at hp4 ⊢
        exact tail x dx2 H3 nx ndx e3 p4 hp4
      · refine iteB (fun z => absurd (of_decide_eq_true z) q1) (fun _ => ?_)
        have okf := pok e hm
        rw [q2] at okf
        refine ⟨_, rfl, e.2.1, _, _, .str e.2.2.word, rfl, rfl, SqT.of htT', rfl, _, rfl, e.2.1, _, _, .int (topI e.2.2), rfl, rfl, SqT.of htT', rfl, fun x dx2 nx ndx ne => ⟨x, dx2, ⟨e.2.2.word, .int (topI e.2.2)⟩, rfl, okf, upd_same, fun H3 e3 => ⟨rfl, by show 2 ≤ sizeLine; decide, fun p4 hp4 => ?_⟩⟩⟩
        rw [← q2] at hp4 ⊢
        exact tail x dx2 H3 nx ndx e3 p4 hp4
    · obtain ⟨es', q1, q2, q3⟩ := ents_of2 pr
      have q2' := q2.trans hps
      have nk : ((entK es').map (·.1)).Nodup := ent_nodup q2' (by rw [List.map_map]; exact ndk)
      refine ⟨D, rs2, entK es', rfl, SqL.of hd, q1, fun p5 hp5 => ?_⟩
      rw [merge_new (entK es') [] nk, List.nil_append]
      have fpB := e _ _ dL
      have fp5 := ne_of_none fpB hp5
      refine ⟨(upd_ne fp5).trans fpB, ?_⟩
      have eF := exL (e.more (o := .dK (entK es')) hp5)
      have hF5 : upd (upd Hb p5 (.dK (entK es'))) fp (.dK (entK ps)) p5 = some (.dK (entK es')) := (upd_ne fp5.symm).trans upd_same
      have hFf : ∀ e ∈ es', FillAt W.K (upd (upd Hb p5 (.dK (entK es'))) fp (.dK (entK ps))) e.2.1 e.2.2 := fun u hu => by
        obtain ⟨dxf, hf⟩ := q3 u hu
        exact ⟨dxf, by rw [upd_ne (ne_of hf fpB (by intro z; cases z)), upd_ne (ne_of_none hf hp5)]; exact hf⟩
      have hHF : ∃ HF : Hp, HF = upd (upd Hb p5 (.dK (entK es'))) fp (.dK (entK ps)) := ⟨_, rfl⟩
      obtain ⟨HF, hHF⟩ := hHF
      rw [← hHF] at eF hF5 hFf ⊢
      clear hHF
      have hCF := hC14.ex_mono eF
      obtain ⟨⟨dxF, _, _, _, hxF, _⟩, _⟩ := id hCF
      have les : es'.length ≤ 5 := by
        have z := congrArg List.length q2'
        rw [List.length_map, List.length_map] at z
        omega
      have ndL : ((es'.map fun e => (e.1, e.2.2)).map (·.1)).Nodup := by
        rw [q2', List.map_map]
        exact ndk
      have same' : SameC (es.map (·.2)) { c with fill := toldF es' } c := ⟨rfl, fun k hk => by
        obtain ⟨u, hu, rfl⟩ := List.mem_map.mp hk
        show toldF es' u.2.name = c.fill u.2.name
        rw [toldF_L]
        exact told_self ndL (u.2.name, c.fill u.2.name) (by rw [q2']; exact List.mem_map.mpr ⟨u, hu, rfl⟩)⟩
      have inE : ∀ e ∈ es', ∃ u ∈ es, e.1 = u.2.name ∧ e.2.2 = c.fill u.2.name := fun e he => by
        have z : (e.1, e.2.2) ∈ es.map fun e => (e.2.name, c.fill e.2.name) := by
          rw [← q2']
          exact List.mem_map.mpr ⟨e, he, rfl⟩
        obtain ⟨u, hu, eu⟩ := List.mem_map.mp z
        exact ⟨u, hu, (congrArg Prod.fst eu).symm, (congrArg Prod.snd eu).symm⟩
      refine ⟨_, rfl, x, dxF, _, rfl, hxF, rfl, _, rfl, rfl, rfl, fun d2 hd2 => ?_⟩
      refine ⟨x, d2, b, as, es.map (·.2), c, { c with fill := toldF es' }, ["fills"], [.ref p5], some (p5, es'), rfl, hCF.ex_mono ((Ex.refl HF).more hd2), ⟨pg.cok.wholes, pg.cok.floats, pg.cok.doubles, pg.cok.slot, pg.cok.home, pg.cok.tail⟩, upd_same, rfl, by decide, by decide +kernel, fun fp' => by kernel_rfl,
        ⟨⟨((Ex.refl HF).more hd2) _ _ hF5, fun u hu => let ⟨dxf, hf⟩ := hFf u hu; ⟨dxf, ((Ex.refl HF).more hd2) _ _ hf⟩⟩, fun u hu => ?_, les, fun u hu => ?_, fun k hk => rfl⟩, fun H16 z e16 nz cz => ?_⟩
      · obtain ⟨v, hv, h1, _⟩ := inE u hu
        rw [h1]
        exact List.mem_map.mpr ⟨v.2, List.mem_map.mpr ⟨v, hv, rfl⟩, rfl⟩
      · obtain ⟨v, hv, _, h2⟩ := inE u hu
        rw [h2]
        exact pfok v hv
      refine ⟨z, b, as, _, c, rfl, cz.same same', fun H17 e17 => ⟨_, rfl, rfl, _, rfl, ?_⟩⟩
      refine iteB (c := !_) (fun z => ?_) (fun _ => ?_)
      · exfalso
        rw [decide_eq_true rfl] at z
        cases z
      have eF17 : Ex HF H17 := (((Ex.refl HF).more hd2).trans e16).trans e17
      have e1417 := eF.trans eF17
      have hC17 := hC14.ex_mono e1417
      have p17 := p14.ex e1417
      have hl17 := e1417 _ _ hl14
      have eH17 := eH14.trans e1417.p
      have tq : ∀ {z : Str}, z.length ≤ 20000 → z.length ≤ 900000 ∧ Told z ∧ lawWrong z ≤ 1000000 := fun {z} h1 => ⟨Nat.le_trans h1 (by decide), (told_all z).1, by have := (told_all z).2.1; omega⟩
      have lfok : PyData.strOk (Str.ofString "\n") = true := by decide +kernel
      have lfx : PyData.strOk (Str.ofString "\nx") = true := by decide +kernel
      have l1 : (Str.ofString "\n").length = 1 := rfl
      have l2 : (Str.ofString "\nx").length = 2 := rfl
      have szl : ∀ k : Nat, k ≤ 20000 → k ≤ sizeLine := fun k h => by rw [sizeLine_eq]; omega
      refine ⟨_, rfl, by decide, by decide, for_it (walk_range (lo := 0) (n := 10)) (fun i σ Hc => ∃ (a9 a10 : Option V), ExP p H17 Hc ∧ Pot Hc p ∧ σ = [some (.ref p), some (.ref dk), some (.ref pl), some (.ref b), some (.ref l), some (.ref x), some (.str (textOf (es.map (·.2)) c)), some (.ref y), some (.ref p5), a9, a10, none, none, none])
        ⟨none, none, ExP.refl p H17, p17, rfl⟩ (fun _ _ _ _ _ => True.intro) (fun i yv σ Hc H2 hi hP hY => ?_) (fun σ Hc hP => ?_)⟩
      · obtain ⟨a9, a10, ec, pc, rfl⟩ := hP
        obtain ⟨rfl, rfl⟩ := hY
        have hlc := ec _ _ lp hl17
        refine ⟨rfl, _, rfl, _, rfl, p, l, _, rfl, pc, hlc, lp, prow, fun H18 l18 rs18 e18 p18 hl18 lp18 rb18 => ?_⟩
        obtain ⟨k1, k2, k3⟩ := rows_join rb18
        refine ⟨Str.ofString "\n", l18, rs18, rfl, rfl, .inl (SqL.of hl18), by omega, ?_⟩
        have tlen : ((Txt.join (Str.ofString "\n") rs18) ++ Str.ofString "\n").length ≤ 20000 := by rw [str_len]; omega
        have tlenx : ((Txt.join (Str.ofString "\n") rs18) ++ Str.ofString "\nx").length ≤ 20000 := by rw [str_len]; omega
        refine ⟨_, rfl, _, _, rfl, rfl, szl _ (by omega), _, rfl, (tq tlen).1, (app_ok k3 lfok), (tq tlen).2.1, (tq tlen).2.2, fun H19 e19 => ?_⟩
        refine ⟨_, rfl, ?_⟩
        refine iteB (c := !_) (fun z => by cases z) (fun _ => ?_)
        refine ⟨_, rfl, _, rfl, (tq (z := Txt.join (Str.ofString "\n") rs18) (by omega)).1, k3, (tq (z := Txt.join (Str.ofString "\n") rs18) (by omega)).2.1, (tq (z := Txt.join (Str.ofString "\n") rs18) (by omega)).2.2, fun H20 e20 => ?_⟩
        refine ⟨_, rfl, ?_⟩
        refine iteB (c := !_) (fun z => by cases z) (fun _ => ?_)
        refine ⟨_, rfl, _, _, rfl, rfl, szl _ (by omega), _, rfl, (tq tlenx).1, (app_ok k3 lfx), (tq tlenx).2.1, (tq tlenx).2.2, fun H21 e21 => ?_⟩
        refine ⟨_, rfl, ?_⟩
        refine iteB (c := !_) (fun z => by cases z) (fun _ => ?_)
        have e1821 := (e19.trans e20).trans e21
        have p21 := p18.ex e1821
        have ec21 := (ec.trans e18).trans e1821.p
        have hl21 := ec21 _ _ lp hl17
        have lr : ((textLines (es.map (·.2)) c).map V.str).length ≤ 18 := by
          rw [List.length_map]
          exact prow.2.1
        refine ⟨rfl, _, rfl, _, rfl, _, rfl, l, _, rfl, .inl (SqL.of hl21), _, _, rfl, rfl, p, _, rfl, p21, by omega, by omega, fun H22 dd dd0 dd1 e22 p22 => ?_⟩
        obtain ⟨n, rfl⟩ : ∃ n : Nat, dd = n := ⟨dd.toNat, by omega⟩
        refine ⟨_, rfl, l, _, rfl, SqL.of (e22 _ _ lp hl21), fun s23 hs23 => ?_⟩
        rw [cut_lo, ← List.map_take]
        obtain ⟨m1, m2, m3⟩ := rows_join' (n := 18) (k := 40) (rs := (textLines (es.map (·.2)) c).take n) (by have := prow.2.1; rw [List.length_take]; omega) fun r hr => prow.2.2 r (List.mem_of_mem_take hr)
        have tlen3 : (Txt.join (Str.ofString "\n") ((textLines (es.map (·.2)) c).take n) ++ Str.ofString "\n").length ≤ 20000 := by rw [str_len]; omega
        refine ⟨Str.ofString "\n", s23, _, rfl, rfl, .inl (SqL.of upd_same), by omega, ?_⟩
        refine ⟨_, _, rfl, rfl, szl _ (by omega), _, rfl, (tq tlen3).1, (app_ok m3 lfok), (tq tlen3).2.1, (tq tlen3).2.2, fun H24 e24 => ?_⟩
        refine ⟨_, rfl, ?_⟩
        refine iteB (c := !_) (fun z => by cases z) (fun _ => ?_)
        have e2224 := ((Ex.refl H22).more (o := .lst (((textLines (es.map (·.2)) c).take n).map V.str)) hs23).trans e24
        exact ⟨_, _, (ec21.trans e22).trans e2224.p, p22.ex e2224, rfl⟩
      · obtain ⟨a9, a10, ec, pc, rfl⟩ := hP
        have hCc := hC17.exP p17 ec
        have eHc := eH17.trans ec
        refine ⟨by show 1 ≤ sizeLine; decide, fun la hla => ⟨by show 0 ≤ sizeLine; decide, fun tp htp => ⟨_, rfl, by show 6 ≤ sizeLine; decide, fun lo hlo => ⟨lo, rfl, ⟨_, SqL.of upd_same⟩, ?_⟩⟩⟩⟩
        have eO := (((Ex.refl Hc).more (o := .lst [V.str (Str.ofString "kind")]) hla).more (o := .tup []) htp).more (o := .lst [V.non, .int 7, .bl true, .ref la, .ref tp, .ref x]) hlo
        have hlaO : upd (upd (upd Hc la (.lst [V.str (Str.ofString "kind")])) tp (.tup [])) lo (.lst [V.non, .int 7, .bl true, .ref la, .ref tp, .ref x]) la = some (.lst [V.str (Str.ofString "kind")]) := (((Ex.refl _).more htp).more hlo) _ _ upd_same
        have htpO : upd (upd (upd Hc la (.lst [V.str (Str.ofString "kind")])) tp (.tup [])) lo (.lst [V.non, .int 7, .bl true, .ref la, .ref tp, .ref x]) tp = some (.tup []) := ((Ex.refl _).more hlo) _ _ upd_same
        have hloO : upd (upd (upd Hc la (.lst [V.str (Str.ofString "kind")])) tp (.tup [])) lo (.lst [V.non, .int 7, .bl true, .ref la, .ref tp, .ref x]) lo = some (.lst [V.non, .int 7, .bl true, .ref la, .ref tp, .ref x]) := upd_same
        have hHO : ∃ HO_ : Hp, HO_ = upd (upd (upd Hc la (.lst [V.str (Str.ofString "kind")])) tp (.tup [])) lo (.lst [V.non, .int 7, .bl true, .ref la, .ref tp, .ref x]) := ⟨_, rfl⟩
        obtain ⟨HO_, hHO⟩ := hHO
        rw [← hHO] at eO hlaO htpO hloO
        have hCO := hCc.ex_mono eO
        obtain ⟨⟨dxO, _, _, _, hxO, _⟩, _⟩ := id hCO
        refine for_it (walk_list (xs := [V.non, .int 7, .bl true, .ref la, .ref tp, .ref x])) (fun i σ Hn => ∃ (a11 : Option V), Ex HO_ Hn ∧ σ = [some (.ref p), some (.ref dk), some (.ref pl), some (.ref b), some (.ref l), some (.ref x), some (.str (textOf (es.map (·.2)) c)), some (.ref y), some (.ref p5), a9, a10, a11, none, none])
          ⟨none, by rw [hHO]; exact Ex.refl _, rfl⟩ (fun i σ Hn _ h => by obtain ⟨_, en, _⟩ := h; exact SqL.of (en _ _ hloO)) (fun i yv σ Hn H2 hi hP hY => ?_) (fun σ Hn hP => ?_)
        · obtain ⟨a11, en, rfl⟩ := hP
          obtain ⟨rfl, hy⟩ := hY
          have ty : ∃ ct, TyX W.K H2 yv ct ∧ PySem.W.kitOne W.K ct (.type "str") = some false := by
            have hm := List.mem_of_getElem? hy
            simp only [List.mem_cons, List.not_mem_nil, or_false] at hm
            rcases hm with h | h | h | h | h | h <;> subst h
            · exact ⟨_, .base .non, kit_ty (by decide +kernel)⟩
            · exact ⟨_, .base (.int _), kit_ty (by decide +kernel)⟩
            · exact ⟨_, .base (.bl _), kit_ty (by decide +kernel)⟩
            · exact ⟨_, .base (.lst (en _ _ hlaO)), kit_ty (by decide +kernel)⟩
            · exact ⟨_, .base (.tup (en _ _ htpO)), kit_ty (by decide +kernel)⟩
            · exact ⟨_, T.ty_Convention.of T.cls_Convention (en _ _ hxO), T.ki_Convention⟩
          obtain ⟨ct, t1, t2⟩ := ty
          refine ⟨_, rfl, yv, rfl, .inr ⟨ct, t1, t2, fun H3 l3 e3 nl3 hl3 => ?_⟩⟩
          refine ⟨by show 2 ≤ sizeLine; decide, fun l4 hl4 => ?_⟩
          refine ⟨.list [.str Str.empty, .int 0], .list [.str (Str.ofString ""), .int 0], .lst (SqL.of (((Ex.refl H3).more hl4) _ _ hl3)) (.cons (.str _) (.cons (.int _) .nil)), .lst (SqL.of upd_same) (.cons (.str _) (.cons (.int _) .nil)), by decide +kernel, by decide +kernel, _, rfl, ?_⟩
          refine iteB (c := !_) (fun z => ?_) (fun _ => ?_)
          · exfalso
            revert z
            decide +kernel
          exact ⟨_, en.trans (e3.more hl4), rfl⟩
        · obtain ⟨a11, en, rfl⟩ := hP
          have hCn := hCO.ex_mono en
          have eHn := eHc.trans (eO.trans en).p
          refine ⟨_, rfl, (tq (z := Str.ofString "") (by decide)).1, by decide +kernel, (tq (z := Str.ofString "") (by decide)).2.1, (tq (z := Str.ofString "") (by decide)).2.2, fun H3 e3 => ⟨true, rfl, ?_⟩⟩
          refine iteB (fun _ => ?_) (fun z => by cases z)
          refine ⟨_, rfl, (tq (z := Str.ofString "\n") (by decide)).1, by decide +kernel, (tq (z := Str.ofString "\n") (by decide)).2.1, (tq (z := Str.ofString "\n") (by decide)).2.2, fun H4 e4 => ⟨true, rfl, ?_⟩⟩
          refine iteB (fun _ => ?_) (fun z => by cases z)
          refine ⟨_, rfl, x, b, as, _, c, rfl, (hCn.ex_mono e3).ex_mono e4, fun H5 e5 => ⟨_, rfl, rfl, ?_⟩⟩
          rw [decide_eq_true rfl]
          exact q _ (eHn.trans ((e3.trans e4).trans e5).p)
end
end U
/-! ## the law: law -/
namespace U
open PySem PySem.Spec PyProof.Rows L2 StX TL
section
variable {W : Wd}
abbrev laN : List Str := ["_law_script", "_law_k"]
theorem sc_law : FnScope laN ["_law_script"] (defScope s_law) := ⟨rfl, rfl, rfl, by decide +kernel, rfl, by decide +kernel, by decide +kernel⟩
def sp_law (K : Fg) : Sp := fun vs H Q _ => ∃ (a : Addr) (ns : List Int), vs = [.ref a] ∧ SqL K H a (ns.map V.int) ∧ ∀ H', Q (.bl true) H'
theorem ok_law (T : Tx W) {fd : FuncData} (F : Df W.K d_law fd) : FnG W.P W.w W.K W.mg W.base CX0 16 (ga W.K "law") fd ["_law_script"] (sp_law W.K) := by
  obtain ⟨fdR, FR, bR⟩ := ok_law_right T
  obtain ⟨_, dR⟩ := T.d__law_right
  have kpR := dR.kp
  refine okG F sc_law (fun vs H Q E h => ?_) (fun cdv A outer s H vs Q E hA hr h => ?_)
  · obtain ⟨a, ns, rfl, _⟩ := h
    rfl
  · obtain ⟨a, ns, rfl, hS, q⟩ := h
    refine ⟨_, PSs.nox (pss_one (ps_ret (pe_callB (cr_all rfl) (by rfl) T.f_all (by decide +kernel) (pa_cons (pe_lc (own := [("_law_k", 1)]) (g := gName 1) (tt := tYes) rfl sc_law.nd
      (pi_range1 (by rfl) T.f_range (pa_cons (pe_callB (call_max2 rfl) (by rfl) T.f_max (by decide +kernel) (pa_cons pe_int (pa_cons (pe_callB (call_min2 rfl) (by rfl) T.f_min (by decide +kernel) (pa_cons pe_int (pa_cons (pe_callB call_len_seq (by rfl) T.f_len (by decide +kernel) (pa_cons (pv 0) pa_nil)) pa_nil))) pa_nil))) pa_nil))
      (blkOk_by (N := laN) (sc := defScope s_law) (by decide +kernel))
      (fun _ _ _ _ _ => pg_name (i := 1) sc_law.nd rfl (Or.inl rfl)) (fun _ _ _ _ _ => pts_nil) (fun _ _ _ _ _ => pe_callG FR (by exact hA) hr (by rfl) T.g__law_right kpR bR pass0 (pa_cons (u_call (ok_law_pot T) T.g__law_pot hr (pa_cons (pv 0) (pa_cons (pv 1) pa_nil))) pa_nil))) pa_nil)))), ?_⟩
    have mk : 1 ≤ (if (if ((ns.map V.int).length : Int) < 3 then ((ns.map V.int).length : Int) else 3) > 1 then (if ((ns.map V.int).length : Int) < 3 then ((ns.map V.int).length : Int) else 3) else 1) ∧ (if (if ((ns.map V.int).length : Int) < 3 then ((ns.map V.int).length : Int) else 3) > 1 then (if ((ns.map V.int).length : Int) < 3 then ((ns.map V.int).length : Int) else 3) else 1) ≤ 3 := by
      generalize ((ns.map V.int).length : Int) = m
      split <;> split at * <;> omega
    refine ⟨_, rfl, a, _, rfl, .inl hS, _, _, rfl, _, _, rfl, _, rfl, ?_⟩
    generalize (if (if ((ns.map V.int).length : Int) < 3 then ((ns.map V.int).length : Int) else 3) > 1 then (if ((ns.map V.int).length : Int) < 3 then ((ns.map V.int).length : Int) else 3) else 1) = m at mk ⊢
    obtain ⟨m1, m3⟩ := mk
    obtain ⟨N, rfl⟩ : ∃ N : Nat, m = N := ⟨m.toNat, by omega⟩
    refine ⟨by omega, by omega, fun D hD => ?_⟩
    refine lc_it (walk_range (lo := 0) (n := N)) (fun i Hn => Ex H Hn ∧ Hn D = some (.lst ((List.replicate i true).map V.bl))) ⟨(Ex.refl H).more hD, upd_same⟩ (fun _ _ _ _ => True.intro) (fun j y Hn Hn2 hj hPn hYn => ?_) (fun Hn hPn => ?_)
    · obtain ⟨en, Dn⟩ := hPn
      obtain ⟨rfl, rfl⟩ := hYn
      have hSn : SqL W.K Hn2 a (ns.map V.int) := by
        rcases hS with (h | ⟨od, h⟩) | r
        · exact .inl (.inl (en _ _ h))
        · exact .inl (.inr ⟨od, en _ _ h⟩)
        · exact .inr r
      refine ⟨rfl, _, rfl, _, rfl, a, _, ns, rfl, hSn, by omega, by omega, fun H3 p e3 np pp => ⟨p, rfl, pp, fun H4 e4 => ?_⟩⟩
      have D3 := e3 _ _ Dn
      have Dp : D ≠ p := ne_of_none Dn np
      refine ⟨_, e4 _ _ Dp D3, ?_, ?_, ?_⟩
      · rw [List.length_map, List.length_replicate, sizeLine_eq]
        omega
      · intro u o hu
        have h1 := en _ _ hu
        have u3 := e3 _ _ h1
        have up : u ≠ p := ne_of_none h1 np
        have uD : u ≠ D := ne_of_none hu hD
        rw [upd_ne uD]
        exact e4 _ _ up u3
      · rw [upd_same, List.replicate_succ', List.map_append]
        rfl
    · obtain ⟨en, Dn⟩ := hPn
      refine ⟨D, List.replicate N true, rfl, SqL.of Dn, ?_⟩
      have : (List.replicate N true).all id = true := by
        rw [List.all_eq_true]
        intro b hb
        exact (List.mem_replicate.mp hb).2
      rw [this]
      exact q _
end
end U
/-! ## the end -/
namespace U
open PySem PySem.Spec PyProof.Rows L2
theorem df_one {K : Fg} {d : DefP} {fd fd' : FuncData} (x : Df K d fd) (y : Df K d fd') : fd = fd' := by
  obtain ⟨oc, od, dV, kV, doc, pm, an, cdv, ct, osl, rfl, lk, _⟩ := x.ex
  obtain ⟨oc', od', dV', kV', doc', pm', an', cdv', ct', osl', rfl, lk', _⟩ := y.ex
  rw [lk] at lk'
  injection lk' with e
  injection e with _ _ e2
  injection e2
end U
open PySem PySem.W PySem.Calls PyProof.Rows
theorem PySem.Challenge.cw_unlikecalls_k90_texts_and_wrong_lines_holds : PySem.Challenge.rw_unlikecalls_k90_texts_and_wrong_lines.Holds := by
  w_on; o_law
  refine HandSHeadRun.head_any (r := OpenLaw.row PySem.Challenge.rw_unlikecalls_k90_texts_and_wrong_lines) (q := U.qv) (H := U.hk) (ob := U.ob) (M := 16000) (loose := U.names) (d := HandSHeadRun.topDef (OpenLaw.row PySem.Challenge.rw_unlikecalls_k90_texts_and_wrong_lines).prog 124) (kwd := []) U.ob_eq
    (by kernel_rfl) (fun s => by kernel_rfl) U.run (by kernel_rfl) (by kernel_rfl) (by kernel_rfl) (by rfl) (by first | assumption | decide +kernel) (by decide +kernel) ⟨rfl, rfl, rfl, rfl, rfl, by decide +kernel⟩ ?hw ?hc
  case hw => w_witness2
  case hc =>
    refine U.walk_ofG (l := PySem.Challenge.rw_unlikecalls_k90_texts_and_wrong_lines) (n := 63) (k := 16) (x := "_law_script") (CX := L2.CX0) rfl (by decide) (by kernel_rfl) ⟨rfl, by decide, by decide⟩ ?F (fun _ _ _ _ z => z)
    intro w mg fa h Y G hmg0
    obtain ⟨K, KX, c⟩ := Y
    have hmg : mg ("law" : PySem.Str) = some (.ref fa) := by
      have e : (HandSHeadRun.topDef (OpenLaw.row PySem.Challenge.rw_unlikecalls_k90_texts_and_wrong_lines).prog 124).name = ("law" : PySem.Str) := by kernel_rfl
      rw [← e]
      exact hmg0
    have T : ∀ base : Heap, K.In base → base.Ns mainGlobals mg → U.Tx ⟨PySem.Challenge.rw_unlikecalls_k90_texts_and_wrong_lines.prog, w, K, mg, base⟩ := fun base X Gb => ⟨X, Gb, c⟩
    have T0 := T h KX G
    have e := hmg.symm.trans T0.g_law
    cases e
    obtain ⟨fd, F⟩ := T0.d_law
    have b := L2.FunD.bindsA (ps := ["_law_script"]) F fun _ _ _ _ _ _ us hl => match us, hl with | [_], _ => rfl
    exact ⟨K, fd, U.sp_law K, KX, fun s v => b s [v] rfl, fun H a ns hl _ _ hS => ⟨a, ns, rfl, hS, fun _ => rfl⟩, fun base X Gb => U.ok_law (T base X Gb) F⟩
