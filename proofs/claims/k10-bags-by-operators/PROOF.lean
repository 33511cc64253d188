import PyProof.Rows.All
import Wide.All
import OpenK.AllK
import Wide.FinOn
import KE.KOpsOwn
import HandS.ForMost
import HandS.More
import HandS.OwnEq
import HandS.SetFor
import HandS.Strs
import HandS.Defaults
import HandS.MakeKw
import HandS.DictComp
import HandS.IsInst
import HandS.SortInts
import HandS.Conv
import HandS.Wide
import HandS.Walk
import HandS.Style
import HandS.Flow
import HandS.EndBits
import HandS.Evl
import PySem.Challenge.RW_nestedwrites_k10_bags_by_operators
set_option Elab.async false
set_option linter.all false
set_option maxRecDepth 100000
set_option maxHeartbeats 4000000
namespace L2.G42
open PySem PySem.Spec PyProof.Rows
section
variable {X : Cx} {CX : CXT} {n : Nat} {C f : Addr} {fd : FuncData} {ps : List Str} {sp : Sp} {E : XK}
/-- an own method of two operands, by its promise -/
def rOwn2 (C : Addr) (sp : Sp) (E : XK) : R2 := fun x y H Q => ∃ a dx fs, x = .ref a ∧ H a = some (.ins C dx fs) ∧ sp [x, y] H Q E
theorem own_call {pins : List (Addr × Obj)} {s : Shared} {σ : St} {H : Hp} {x y : V} {u v : Value} {Q : VK} (F : FnOk X.prog X.w X.K X.mg X.base CX n f fd ps sp) (hb : Binds X.K fd ps []) (hr : Room n X.A) (hx : Passes CX X E)
    (I : Inv X pins σ H s) (rx : RelV x u) (ry : RelV y v) (hsp : sp [x, y] H Q E) :
    wpAny (model X.prog X.w) X.A (call (.ref f) [u, v]) (PySem.W.CmpBack (EP X pins σ Q)) X.xe s := by
  have hl := F.len _ _ _ _ hsp
  have r2 : Vals [x, y] [u, v] := .cons rx (.cons ry .nil)
  refine wpAny_call (codeAny_mono (F.run X.A X.stack s H ⟨[u, v], []⟩ [u, v] [x, y] _ E hr I.env0 (by
    have := hb s [u, v] I.kIn (by simpa using hl)
    simpa using this) r2 hsp) fun r s' hq => ?_)
  cases r with
  | error e => exact hx pins σ H s e s' I hq
  | ok fl =>
    cases fl with
    | ret w =>
      obtain ⟨z, H', I', rz, q⟩ := I.after hq
      have hz : EP X pins σ Q w s' := ⟨z, H', I', rz, q⟩
      cases z with
      | non => cases rz; exact hz
      | bl b => cases rz; exact hz
      | int i => obtain ⟨t, rfl⟩ := rz; exact hz
      | str i => obtain ⟨t, rfl⟩ := rz; exact hz
      | byt i => obtain ⟨t, rfl⟩ := rz; exact hz
      | flt i => obtain ⟨t, rfl⟩ := rz; exact hz
      | ref a => cases rz; exact hz
      | ty a => cases rz; exact hz
    | next => exact False.elim hq
    | brk => exact False.elim hq
    | cont => exact False.elim hq
theorem op_own {op : Operator} (F : FnOk X.prog X.w X.K X.mg X.base CX n f fd ps sp) (hs : PySem.W.findIn X.K (.ref C) (PySem.dunder op.info.2) = some (some (.ref f))) (hf : PySem.W.isFn X.K (.ref f) = true) (hc : PySem.W.selfFirst X.K C = true)
    (hb : Binds X.K fd ps []) (hr : Room n X.A) (hx : Passes CX X E) : OpR X (binaryOp op) (fun x y H Q => (∃ b dy gs, y = .ref b ∧ H b = some (.ins C dy gs)) ∧ rOwn2 C sp E x y H Q) := by
  intro pins s σ H x y u v Q I rx ry h
  obtain ⟨⟨b, dy, gs, rfl, hb'⟩, a, dx, fs, rfl, ha, hsp⟩ := h
  have rx' := rx
  have ry' := ry
  cases rx
  cases ry
  obtain ⟨mA, J, _⟩ := ins_get I.hok ha
  obtain ⟨mB, J', _⟩ := ins_get I.hok hb'
  obtain ⟨od, J, _⟩ := J.look
  obtain ⟨od', J', _⟩ := J'.look
  obtain ⟨m, hF⟩ := I.fr
  exact PySem.W.binop_K hF I.ok.mod.kin J J'.type hc hs hf (own_call F hb hr hx I rx' ry' hsp)
theorem iop_own {op : Operator} (F : FnOk X.prog X.w X.K X.mg X.base CX n f fd ps sp) (hs : PySem.W.findIn X.K (.ref C) (dunderI op.info.2) = some (some (.ref f))) (hf : PySem.W.isFn X.K (.ref f) = true) (hc : PySem.W.selfFirst X.K C = true)
    (hb : Binds X.K fd ps []) (hr : Room n X.A) (hx : Passes CX X E) : OpR X (inplaceOp op) (rOwn2 C sp E) := by
  intro pins s σ H x y u v Q I rx ry h
  obtain ⟨a, dx, fs, rfl, ha, hsp⟩ := h
  have rx' := rx
  cases rx
  obtain ⟨mA, J, _⟩ := ins_get I.hok ha
  obtain ⟨od, J, _⟩ := J.look
  obtain ⟨m, hF⟩ := I.fr
  exact PySem.W.ksp_inplace hF I.ok.mod.kin J hc hs hf (own_call F hb hr hx I rx' ry hsp)
end
end L2.G42

set_option Elab.async false
set_option linter.all false
set_option maxRecDepth 100000
set_option maxHeartbeats 4000000
namespace L2.G42
open PySem PySem.Spec PyProof.Rows
section
variable {M : Model} {prog : Program} {w : World} {A : Around} {E : Value → Shared → Prop} {s : Shared} {K : PySem.W.Frag} {x y C D : Addr} {ox oy : Obj} {od oe : Option Obj}
theorem inst_notup (I : PySem.W.InstAt s.heap x ox C od) : ox.cls ≠ .type "tuple" := by
  rw [I.cls]
  intro e
  cases e
/-- no == of its own -/
structure Plain (K : PySem.W.Frag) (C : Addr) : Prop where
  eq : PySem.W.findIn K (.ref C) "__eq__" = some (some (.builtin "object.__eq__"))
  ne : PySem.W.findIn K (.ref C) "__ne__" = some (some (.builtin "object.__ne__"))
  ob : PySem.W.mroIn K C (.type "object") = some true
theorem id_call_same {Q : Value → Shared → Prop} (X : K.In s.heap) (I : PySem.W.InstAt s.heap x ox C od) (P : Plain K C) (hq : Q (.bool true) s) :
    wpAny (model prog w) A (call (.builtin "object.__eq__") [.ref x, .ref x]) Q E s :=
  wpAny_call (codeAny_call_builtin F.cmp_object.eq.plain F.cmpEntry_eq (PySem.W.check_slot F.cmpKind_eq F.cmpSplit_eq (I.type.andThen (PySem.W.looks_mroIn X P.ob)) (F.cmpArgs_eq _ _) (objEq_entry_same hq)))
theorem id_call_other {Q : Value → Shared → Prop} (X : K.In s.heap) (I : PySem.W.InstAt s.heap x ox C od) (P : Plain K C) (hy : s.heap.get? y = some oy) (hxy : x ≠ y) (hq : Q .notImplemented s) :
    wpAny (model prog w) A (call (.builtin "object.__eq__") [.ref x, .ref y]) Q E s :=
  wpAny_call (codeAny_call_builtin F.cmp_object.eq.plain F.cmpEntry_eq (PySem.W.check_slot F.cmpKind_eq F.cmpSplit_eq (I.type.andThen (PySem.W.looks_mroIn X P.ob)) (F.cmpArgs_eq _ _) (objEq_entry_other hxy I.at_ hy (inst_notup I) hq)))
theorem ifBound_b {name : Str} {id : String} {args : List Value} {Q : Option Value → Shared → Prop} (S : Slot "object" name id) (X : K.In s.heap) (I : PySem.W.InstAt s.heap x ox C od) (hs : PySem.W.findIn K (.ref C) name = some (some (.builtin id)))
    (h : wpAny M A (call (.builtin id) (.ref x :: args)) (fun v => Q (some v)) E s) : wpAny M A (callSpecialIfBound? (.ref x) name args) Q E s := by
  simp only [callSpecialIfBound?, bindSpecialIfBound?]
  refine wpAny_holding (wpAny_bind (wpAny_bind (wpAny_bind (I.type.here ((PySem.W.looks_findIn X hs).here ?_)))))
  refine wpAny_bind (wpAny_askSetting (wpAny_ite ?_))
  have fin : wpAny M A (call (.builtin id) ([.ref x] ++ args) >>= fun v => pure (some v)) Q E s := wpAny_bind (wpAny_mono h (fun v s' h' => wpAny_pure h') fun _ _ h' => h')
  split
  · exact wpAny_bind (wpAny_of_eq (S.bind _) (wpAny_pure (by exact fin)))
  · exact wpAny_tryCatch (wpAny_bind (wpAny_of_eq (S.bind _) (wpAny_pure (by exact fin))))
theorem sp_same {Q : Option Value → Shared → Prop} (X : K.In s.heap) (I : PySem.W.InstAt s.heap x ox C od) (P : Plain K C) (hq : Q (some (.bool true)) s) :
    wpAny (model prog w) A (callSpecialIfBound? (.ref x) "__eq__" [.ref x]) Q E s := ifBound_b F.cmp_object.eq X I P.eq (id_call_same X I P hq)
theorem sp_other {Q : Option Value → Shared → Prop} (X : K.In s.heap) (I : PySem.W.InstAt s.heap x ox C od) (P : Plain K C) (hy : s.heap.get? y = some oy) (hxy : x ≠ y) (hq : Q (some .notImplemented) s) :
    wpAny (model prog w) A (callSpecialIfBound? (.ref x) "__eq__" [.ref y]) Q E s := ifBound_b F.cmp_object.eq X I P.eq (id_call_other X I P hy hxy hq)
theorem try_same {Q : Option Value → Shared → Prop} (X : K.In s.heap) (I : PySem.W.InstAt s.heap x ox C od) (P : Plain K C) (hq : Q (some (.bool true)) s) :
    wpAny (model prog w) A (tryCompare (.ref x) "__eq__" (.ref x)) Q E s := by
  simp only [tryCompare]
  exact wpAny_bind (sp_same X I P (wpAny_pure hq))
theorem try_other {Q : Option Value → Shared → Prop} (X : K.In s.heap) (I : PySem.W.InstAt s.heap x ox C od) (P : Plain K C) (hy : s.heap.get? y = some oy) (hxy : x ≠ y) (hq : Q none s) :
    wpAny (model prog w) A (tryCompare (.ref x) "__eq__" (.ref y)) Q E s := by
  simp only [tryCompare]
  exact wpAny_bind (sp_other X I P hy hxy (wpAny_pure hq))
theorem ne_entry_same (X : K.In s.heap) (I : PySem.W.InstAt s.heap x ox C od) (P : Plain K C) (hu : A.units < cLine) {Q : Fin → Shared → Prop} (hq : Q (.done (.ret (.bool false))) s) :
    wpAny (model prog w) A (Builtin.«object.__ne__» ⟨[.ref x, .ref x], []⟩) Q E s := by
  unfold Builtin.«object.__ne__»
  obtain ⟨h, g, d, t, os⟩ := s
  repeat (first | with_reducible refine wpAny_cRoomFor hu ?_ | with_reducible refine sp_same X I P ?_ | wp_step)
  exact hq
theorem ne_entry_other (X : K.In s.heap) (I : PySem.W.InstAt s.heap x ox C od) (P : Plain K C) (hy : s.heap.get? y = some oy) (hxy : x ≠ y) (hu : A.units < cLine) {Q : Fin → Shared → Prop} (hq : Q (.done (.ret .notImplemented)) s) :
    wpAny (model prog w) A (Builtin.«object.__ne__» ⟨[.ref x, .ref y], []⟩) Q E s := by
  unfold Builtin.«object.__ne__»
  obtain ⟨h, g, d, t, os⟩ := s
  repeat (first | with_reducible refine wpAny_cRoomFor hu ?_ | with_reducible refine sp_other X I P hy hxy ?_ | wp_step)
  exact hq
theorem tryn_same {Q : Option Value → Shared → Prop} (X : K.In s.heap) (I : PySem.W.InstAt s.heap x ox C od) (P : Plain K C) (hu : A.units + 1 < cLine) (hq : Q (some (.bool false)) s) :
    wpAny (model prog w) A (tryCompare (.ref x) "__ne__" (.ref x)) Q E s := by
  simp only [tryCompare]
  refine wpAny_bind (ifBound_b F.cmp_object.ne X I P.ne (wpAny_call (codeAny_call_builtin F.cmp_object.ne.plain F.cmpEntry_ne (PySem.W.check_slot F.cmpKind_ne F.cmpSplit_ne (I.type.andThen (PySem.W.looks_mroIn X P.ob)) (F.cmpArgs_ne _ _) (ne_entry_same (A := A.in1) X I P hu ?_)))))
  exact wpAny_pure hq
theorem tryn_other {Q : Option Value → Shared → Prop} (X : K.In s.heap) (I : PySem.W.InstAt s.heap x ox C od) (P : Plain K C) (hy : s.heap.get? y = some oy) (hxy : x ≠ y) (hu : A.units + 1 < cLine) (hq : Q none s) :
    wpAny (model prog w) A (tryCompare (.ref x) "__ne__" (.ref y)) Q E s := by
  simp only [tryCompare]
  refine wpAny_bind (ifBound_b F.cmp_object.ne X I P.ne (wpAny_call (codeAny_call_builtin F.cmp_object.ne.plain F.cmpEntry_ne (PySem.W.check_slot F.cmpKind_ne F.cmpSplit_ne (I.type.andThen (PySem.W.looks_mroIn X P.ob)) (F.cmpArgs_ne _ _) (ne_entry_other (A := A.in1) X I P hy hxy hu ?_)))))
  exact wpAny_pure hq
/-- neither type is first -/
theorem first_no {α : Type} {ta tb : Value} {k : Bool → Sem α} {Q : α → Shared → Prop} (X : K.In s.heap) (hn : ta = tb ∨ PySem.W.subIn K tb ta = some false) (hq : wpAny M A (k false) Q E s) :
    wpAny M A (if ta != tb then isSubtype tb ta >>= k else pure false >>= k) Q E s := by
  by_cases h : ta = tb
  · subst h
    rw [if_neg (by simp)]
    exact wpAny_bind (wpAny_pure hq)
  · rw [if_pos (by simp [h])]
    rcases hn with e | e
    · exact absurd e h
    · exact wpAny_bind ((PySem.W.looks_subIn X e).here hq)
theorem rc_eq_same {Q : Value → Shared → Prop} (X : K.In s.heap) (I : PySem.W.InstAt s.heap x ox C od) (P : Plain K C) (hu : A.units < cLine) (hq : Q (.bool true) s) :
    wpAny (model prog w) A (richCompare .Eq (.ref x) (.ref x)) Q E s := by
  simp only [richCompare, cmpInfo_Eq, oneThing_ref]
  refine wpAny_holding (wpAny_bind (wpAny_cRoomFor hu ?_))
  refine wpAny_bind (I.type.here (wpAny_bind (I.type.here (first_no X (.inl rfl) ?_))))
  simp only [Bool.false_eq_true, if_false, Bool.not_false, if_true]
  exact wpAny_bind (try_same X I P (wpAny_pure hq))
theorem rc_ne_same {Q : Value → Shared → Prop} (X : K.In s.heap) (I : PySem.W.InstAt s.heap x ox C od) (P : Plain K C) (hu : A.units + 1 < cLine) (hq : Q (.bool false) s) :
    wpAny (model prog w) A (richCompare .NotEq (.ref x) (.ref x)) Q E s := by
  simp only [richCompare, cmpInfo_NotEq, oneThing_ref]
  refine wpAny_holding (wpAny_bind (wpAny_cRoomFor (Nat.lt_of_succ_lt hu) ?_))
  refine wpAny_bind (I.type.here (wpAny_bind (I.type.here (first_no X (.inl rfl) ?_))))
  simp only [Bool.false_eq_true, if_false, Bool.not_false, if_true]
  exact wpAny_bind (tryn_same X I P hu (wpAny_pure hq))
/-- the other one says nothing -/
theorem rc_eq_other {tb : Value} {Q : Value → Shared → Prop} (X : K.In s.heap) (I : PySem.W.InstAt s.heap x ox C od) (P : Plain K C) (hy : s.heap.get? y = some oy) (hxy : x ≠ y) (hT : PySem.W.Looks (model prog w) s.heap (typeOf (.ref y)) tb)
    (hn : (.ref C) = tb ∨ PySem.W.subIn K tb (.ref C) = some false) (back : ∀ Q' : Option Value → Shared → Prop, Q' none s → wpAny (model prog w) A (tryCompare (.ref y) "__eq__" (.ref x)) Q' E s) (hu : A.units < cLine) (hq : Q (.bool false) s) :
    wpAny (model prog w) A (richCompare .Eq (.ref x) (.ref y)) Q E s := by
  simp only [richCompare, cmpInfo_Eq, oneThing_ref]
  refine wpAny_holding (wpAny_bind (wpAny_cRoomFor hu ?_))
  refine wpAny_bind (I.type.here (wpAny_bind (hT.here (first_no X hn ?_))))
  simp only [Bool.false_eq_true, if_false, Bool.not_false, if_true]
  refine wpAny_bind (try_other X I P hy hxy ?_)
  refine wpAny_bind (back _ ?_)
  exact wpAny_bind (wpAny_rule (wpAny_bind (wpAny_isSame_ref_other hxy I.at_ hy (inst_notup I) (wpAny_pure hq))))
theorem rc_ne_other {tb : Value} {Q : Value → Shared → Prop} (X : K.In s.heap) (I : PySem.W.InstAt s.heap x ox C od) (P : Plain K C) (hy : s.heap.get? y = some oy) (hxy : x ≠ y) (hT : PySem.W.Looks (model prog w) s.heap (typeOf (.ref y)) tb)
    (hn : (.ref C) = tb ∨ PySem.W.subIn K tb (.ref C) = some false) (back : ∀ Q' : Option Value → Shared → Prop, Q' none s → wpAny (model prog w) A (tryCompare (.ref y) "__ne__" (.ref x)) Q' E s) (hu : A.units + 1 < cLine) (hq : Q (.bool true) s) :
    wpAny (model prog w) A (richCompare .NotEq (.ref x) (.ref y)) Q E s := by
  simp only [richCompare, cmpInfo_NotEq, oneThing_ref]
  refine wpAny_holding (wpAny_bind (wpAny_cRoomFor (Nat.lt_of_succ_lt hu) ?_))
  refine wpAny_bind (I.type.here (wpAny_bind (hT.here (first_no X hn ?_))))
  simp only [Bool.false_eq_true, if_false, Bool.not_false, if_true]
  refine wpAny_bind (tryn_other X I P hy hxy hu ?_)
  refine wpAny_bind (back _ ?_)
  exact wpAny_bind (wpAny_rule (wpAny_bind (wpAny_isSame_ref_other hxy I.at_ hy (inst_notup I) (wpAny_pure hq))))
/-- a list says nothing of what is no list -/
theorem list_back {its : Array Value} {n : Nat} {Q : Option Value → Shared → Prop} (X : K.In s.heap) (I : PySem.W.InstAt s.heap x ox C od) (hm : PySem.W.mroIn K C (.type "list") = some false)
    (hy : s.heap.get? y = some { cls := .type "list", data := .seq its n }) (hq : Q none s) : wpAny (model prog w) A (tryCompare (.ref y) "__eq__" (.ref x)) Q E s := by
  refine wpAny_tryCompare_declines ⟨_, hy, rfl⟩ F.slot_list_eq (GQ.call_here F.slot_list_eq ⟨_, hy, rfl⟩ F.entry_list_eq (F.args_list_eq_2 _ _) ?_)
  have hi : PySem.W.Looks (model prog w) s.heap (isInstance (.ref x) (.type "list")) false := I.type.andThen (PySem.W.looks_mroIn X hm)
  unfold Builtin.«list.__eq__»
  show wpAny (model prog w) A.in1 (isInstance (.ref x) (.type "list") >>= _) _ _ s
  refine wpAny_bind (hi.here ?_)
  simp only [Bool.not_false, if_true]
  exact wpAny_pure ⟨rfl, hq⟩
end
section
variable {X : Cx} {C : Addr}
/-- == of two instances without an == of their own -/
def rEqI (C : Addr) : R2 := fun x y H Q => ∃ a b dx dy fs gs, x = .ref a ∧ y = .ref b ∧ H a = some (.ins C dx fs) ∧ H b = some (.ins C dy gs) ∧ Q (.bl (decide (a = b))) H
def rNeI (C : Addr) : R2 := fun x y H Q => ∃ a b dx dy fs gs, x = .ref a ∧ y = .ref b ∧ H a = some (.ins C dx fs) ∧ H b = some (.ins C dy gs) ∧ Q (.bl (!decide (a = b))) H
theorem op_eqI (P : Plain X.K C) (hu : X.A.units < cLine) : OpR X (compareOp .Eq) (rEqI C) := by
  intro pins s σ H x y u v Q I rx ry h
  obtain ⟨a, b, dx, dy, fs, gs, rfl, rfl, ha, hb, q⟩ := h
  cases rx
  cases ry
  obtain ⟨mA, J, _⟩ := ins_get I.hok ha
  obtain ⟨mB, J', _⟩ := ins_get I.hok hb
  obtain ⟨od, J, _⟩ := J.look
  obtain ⟨od', J', _⟩ := J'.look
  by_cases e : a = b
  · subst e
    exact rc_eq_same I.kIn J P hu ⟨.bl true, H, I, rfl, by simpa using q⟩
  · exact rc_eq_other I.kIn J P J'.at_ e J'.type (.inl rfl) (fun Q' q' => try_other I.kIn J' P J.at_ (Ne.symm e) q') hu ⟨.bl false, H, I, rfl, by simpa [e] using q⟩
theorem op_neI (P : Plain X.K C) (hu : X.A.units + 1 < cLine) : OpR X (compareOp .NotEq) (rNeI C) := by
  intro pins s σ H x y u v Q I rx ry h
  obtain ⟨a, b, dx, dy, fs, gs, rfl, rfl, ha, hb, q⟩ := h
  cases rx
  cases ry
  obtain ⟨mA, J, _⟩ := ins_get I.hok ha
  obtain ⟨mB, J', _⟩ := ins_get I.hok hb
  obtain ⟨od, J, _⟩ := J.look
  obtain ⟨od', J', _⟩ := J'.look
  by_cases e : a = b
  · subst e
    exact rc_ne_same I.kIn J P hu ⟨.bl false, H, I, rfl, by simpa using q⟩
  · exact rc_ne_other I.kIn J P J'.at_ e J'.type (.inl rfl) (fun Q' q' => tryn_other I.kIn J' P J.at_ (Ne.symm e) hu q') hu ⟨.bl true, H, I, rfl, by simpa [e] using q⟩
/-- == of such an instance and a list -/
def rEqIL (C : Addr) : R2 := fun x y H Q => ∃ a b dx fs ys, x = .ref a ∧ y = .ref b ∧ H a = some (.ins C dx fs) ∧ H b = some (.lst ys) ∧ Q (.bl false) H
theorem op_eqIL (P : Plain X.K C) (hs : PySem.W.subIn X.K (.type "list") (.ref C) = some false) (hm : PySem.W.mroIn X.K C (.type "list") = some false) (hu : X.A.units < cLine) : OpR X (compareOp .Eq) (rEqIL C) := by
  intro pins s σ H x y u v Q I rx ry h
  obtain ⟨a, b, dx, fs, ys, rfl, rfl, ha, hb, q⟩ := h
  cases rx
  cases ry
  obtain ⟨mA, J, _⟩ := ins_get I.hok ha
  obtain ⟨od, J, _⟩ := J.look
  obtain ⟨z, its, n, r, e⟩ := I.hok b _ hb
  have hab : a ≠ b := ne_of ha hb (by intro z; cases z)
  exact rc_eq_other I.kIn J P e hab ((PySem.W.Looks.ld e).andThen .now) (.inr hs) (fun Q' q' => list_back I.kIn J hm e q') hu ⟨.bl false, H, I, rfl, q⟩
end
end L2.G42

set_option Elab.async false
set_option linter.all false
set_option maxRecDepth 100000
set_option maxHeartbeats 4000000
namespace L2.G42
open PySem PySem.Spec PyProof.Rows
section
variable {P : Program} {w : World} {A : Around} {E : Value → Shared → Prop} {s : Shared}
/-- an empty set's object -/
abbrev eS (w : World) : Obj := { cls := .type "set", dict := none, data := .set #[] 0 (.fresh 0 0 (!w.params.followText "set-order")) }
/-- set.__init__ of the new set over a list of ints -/
theorem set_init_list {l : Addr} {its : Array Value} (ns : List Int) {R : Result → Shared → Prop} (hh : A.handled = none) (hl : s.heap.IsList l its) (hi : IntsAre its.toList ns) (few : ns.length + 1 < scanBound)
    (fin : ∀ (h' : Heap) (tk c : Nat), SetR w h' s.heap.objs.size (fun j => decide (j ∈ ns)) c → c ≤ ns.length → (∀ b o, s.heap.get? b = some o → h'.get? b = some o) → R (.ok (.ret .none)) { s with heap := h', toks := tk }) :
    wpAny (model P w) A.in1.in1 (Builtin.«set.__init__» ⟨[.ref s.heap.objs.size, .ref l], []⟩) (fun f s' => match f with | .done f => R (.ok f) s' | .again c' => c'.quiet = true ∧ codeAny (model P w) A.in1 c' R s') (fun e s' => R (.error e) s') { s with heap := s.heap.push (eS w) } := by
  have hz : its.size = ns.length := by
    have q := IntsAre.length hi
    rwa [Array.length_toList] at q
  obtain ⟨ob, hob, hcl, nl, hdl⟩ := hl
  obtain ⟨_, odict, _, osl⟩ := ob
  simp only at hcl hdl
  subst hcl; subst hdl
  have lts : l < s.heap.objs.size := Heap.lt_size hob
  have gS : (s.heap.push (eS w)).get? s.heap.objs.size = some (eS w) := Heap.get?_push_size _ rfl
  have gl : (s.heap.push (eS w)).get? l = some { cls := .type "list", dict := odict, data := .seq its nl, slots := osl } := Heap.get?_push_of_some _ hob
  have il : (s.heap.push (eS w)).IsList l its := ⟨_, gl, rfl, nl, rfl⟩
  have k1 := PySem.F.sub_list_set
  have k2 := PySem.F.sub_list_frozenset
  have k3 : (Value.type "list" == Value.type "dict") = false := by decide
  unfold Builtin.«set.__init__» noKeywords Builtin.Frozenset.updateFrom
  generalize hPI : pyIter = PI
  wp_walk
  subst hPI
  refine wpAny_pyIter_list il (wpAny_bind (wpAny_runValue ?_))
  have n1 : l ≠ (s.heap.push (eS w)).objs.size := by rw [Heap.size_push]; exact Nat.ne_of_lt (Nat.lt_succ_of_lt lts)
  have n2 : s.heap.objs.size ∉ [(s.heap.push (eS w)).objs.size, l] := by
    rw [Heap.size_push]
    simp only [List.mem_cons, List.mem_singleton, List.not_mem_nil, or_false, not_or]
    exact ⟨Nat.ne_of_lt (Nat.lt_succ_self _), Nat.ne_of_gt lts⟩
  refine set_update_ints ((Walks.list (A := A.in1.in1.in1) (by simp [hh]) _ l n1 its).toS) s.heap.objs.size n2 ns hz few (fun i v hv => ?_) its.size 0 _ rfl (Nat.zero_le _) ⟨⟨_, Heap.get?_push_size _ rfl, rfl, rfl⟩, il.push _⟩ ⟨0, Nat.le_refl 0, setR_new_at (Heap.get?_push_of_some _ gS)⟩ fun s' c hm hc hS => ?_
  · have lt : i < ns.length := hz ▸ (Array.getElem?_eq_some_iff.mp hv).1
    obtain ⟨t, e⟩ := PyProof.Rows.IntsAre.int_at hi i v (by rw [Array.getElem?_toList]; exact hv)
    exact ⟨ns[i], t, List.getElem?_eq_getElem lt, by rw [e, List.getD_eq_getElem?_getD, List.getElem?_eq_getElem lt]; rfl⟩
  · obtain ⟨h', _, _, tk, _⟩ := s'
    obtain rfl := hm.gens
    obtain rfl := hm.drawn
    obtain rfl := hm.os
    refine wpAny_pure (wpAny_pure (fin h' tk c hS (hz ▸ hc) fun b o e => ?_))
    have lb : b < s.heap.objs.size := Heap.lt_size e
    refine hm.heap b o ?_ (Heap.get?_push_of_some _ (Heap.get?_push_of_some _ e))
    rw [Heap.size_push]
    simp only [List.mem_cons, List.mem_singleton, List.not_mem_nil, or_false, not_or]
    exact ⟨Nat.ne_of_lt lb, Nat.ne_of_lt (Nat.lt_succ_of_lt lb)⟩
/-- how the init ends -/
def InitR (w : World) (s : Shared) (ns : List Int) : Result → Shared → Prop := fun r s₂ => r = .ok (.ret .none) ∧ ∃ h' tk c, s₂ = { s with heap := h', toks := tk } ∧ SetR w h' s.heap.objs.size (fun j => decide (j ∈ ns)) c ∧ c ≤ ns.length ∧ ∀ b o, s.heap.get? b = some o → h'.get? b = some o
/-- set(l), l a list of ints -/
theorem set_of_list {l : Addr} {its : Array Value} (ns : List Int) {Q : Value → Shared → Prop} (hh : A.handled = none) (hl : s.heap.IsList l its) (hi : IntsAre its.toList ns) (few : ns.length + 1 < scanBound)
    (fin : ∀ (h' : Heap) (tk c : Nat), SetR w h' s.heap.objs.size (fun j => decide (j ∈ ns)) c → c ≤ ns.length → (∀ b o, s.heap.get? b = some o → h'.get? b = some o) → Q (.ref s.heap.objs.size) { s with heap := h', toks := tk }) :
    wpAny (model P w) A (call (.type "set") [.ref l]) Q E s := by
  obtain ⟨_, _, e0⟩ := PySem.F.called_set.mro
  have e1 := PySem.F.called_set.made
  have e2 := PySem.F.called_set.sub
  have e3 := PySem.F.called_set.notType
  have e4 := PySem.F.called_set.canCreate
  have e5 := PySem.F.typeCall_set_1 (.ref l)
  refine wpAny_call (codeAny_of_tree ?_)
  show wpAny _ _ (callAny (.type "set") _) _ _ _
  refine wpAny_pure ⟨Code.quiet_builtin _ (by decide +kernel), codeAny_builtin PySem.F.entry_type_call ?_⟩
  rw [Around.under_plain (weight_type_call_type "set" [.ref l] []) rfl]
  repeat (any_goals (first | assumption | wp_step))
  refine codeAny_mono (code_set_led1 (.ref l) (E := E) (Q₁ := fun v s₁ => v = .ref s.heap.objs.size ∧ s₁ = { s with heap := s.heap.push (eS w) }) ⟨rfl, rfl⟩) fun r s₁ hr => ?_
  match r, hr with
  | .error _, hr => exact hr
  | .ok .next, hr => exact hr.elim
  | .ok .brk, hr => exact hr.elim
  | .ok .cont, hr => exact hr.elim
  | .ok (.ret v), hr =>
    obtain ⟨rfl, rfl⟩ := hr
    have gS : (s.heap.push (eS w)).get? s.heap.objs.size = some (eS w) := Heap.get?_push_size _ rfl
    have tS : Shared.TypeIs { s with heap := s.heap.push (eS w) } (.ref s.heap.objs.size) "set" := ⟨_, gS, rfl⟩
    have e6 := PySem.F.called_set.init.lookup
    have e7 := PySem.F.called_set.init.bind (.ref s.heap.objs.size)
    repeat (any_goals (first | assumption | wp_step))
    refine codeAny_mono (codeAny_call_builtin (R := InitR w s ns)
      PySem.F.called_set.init.plain PySem.F.entry_set_init (check_set_init_1 tS (set_init_list (P := P) (w := w) (A := A) (R := InitR w s ns) ns hh hl hi few fun h' tk c a b d => ⟨rfl, h', tk, c, rfl, a, b, d⟩))) fun r₂ s₂ hr₂ => ?_
    obtain ⟨rfl, h', tk, c, rfl, a, b, d⟩ := hr₂
    repeat (any_goals (first | assumption | wp_step))
    exact fin h' tk c a b d
end
section
variable {X : Cx}
/-- set(xs), xs a list of ints -/
def rSetL (K : PySem.W.Frag) (w : World) : List V → Hp → VK → Prop := fun xs H Q => ∃ (l : Addr) (ns : List Int), xs = [.ref l] ∧ SqL K H l (ns.map V.int) ∧ ns.length ≤ 1000 ∧
  ∀ p c, H p = none → c ≤ ns.length → Q (.ref p) (upd H p (SetO w p (fun j => decide (j ∈ ns)) c))
theorem cr_setL (hc : X.calm = true) : CallR X (.type "set") (rSetL X.K X.w) := by
  intro pins s σ H xs us Q I r h
  obtain ⟨l, ns, rfl, hl, few, q⟩ := h
  rw [Vals.ref1 r]
  obtain ⟨its, r1, e1, z1⟩ := I.list hl
  refine set_of_list ns (I.ok.hd hc) e1.isList (intsAre_of r1) (Nat.lt_of_le_of_lt (Nat.add_le_add_right few 1) (by decide)) fun h' tk c a b d => ?_
  have hp : H s.heap.objs.size = none := I.hok.fresh (Nat.le_refl _)
  exact ⟨.ref _, upd H s.heap.objs.size (SetO X.w s.heap.objs.size (fun j => decide (j ∈ ns)) c), I.laid d (Nat.le_refl _) (setO_new a), rfl, q _ c hp b⟩
end
end L2.G42

set_option Elab.async false
set_option linter.all false
set_option maxRecDepth 100000
set_option maxHeartbeats 4000000
namespace L2.G42
open PySem PySem.Spec PyProof.Rows
/-- a test that holds -/
theorem goT {p : Prop} [Decidable p] (h : p) {Q : VK} {H : Hp} (k : Q (.bl true) H) : Q (.bl (decide p)) H := by
  rw [decide_eq_true h]
  exact k
theorem goF {p : Prop} [Decidable p] (h : ¬ p) {Q : VK} {H : Hp} (k : Q (.bl false) H) : Q (.bl (decide p)) H := by
  rw [decide_eq_false h]
  exact k
/-- a dict comprehension over a walk: the new dict at D -/
theorem dc_it {J : It} {n : Nat} {G : Hp → Prop} {Y : Nat → Hp → V → Hp → Prop} (w : Walk J n G Y) {g : TG} {tt : TT} {tk tv : TE} {vs : List Nat} {σ : St} {H1 : Hp} {D : Addr} {Qd : Hp → Prop} (Pv : Nat → Hp → Prop) (h0 : Pv 0 (upd H1 D (.dK []))) (hG : ∀ i H, i ≤ n → Pv i H → G H)
    (hs : ∀ i x H H', i < n → Pv i H → Y i H x H' → g x (wipe σ vs) H' fun σ2 H2 => wipe σ2 vs = wipe σ vs ∧ tt σ2 H2 fun b H3 =>
      if b = true then tk σ2 H3 fun y H4 => tv σ2 H4 fun z H5 => ∃ kvs k, y = kV k ∧ H5 D = some (.dK kvs) ∧ kvs.length < sizeLine ∧ Pv (i + 1) (upd H5 D (.dK (putK kvs k z))) else Pv (i + 1) H3) (hd : ∀ H, Pv n H → Qd H) :
    ∃ W : Nat → Nat → Hp → Prop, (∃ m, W 0 m (upd H1 D (.dK []))) ∧ ∀ i m H, W i m H →
      (J.stop i H ∧ Qd H) ∨ (J.go i H ∧ ∃ Nx : Hp → Prop, (∀ H', Nx H' → ∃ m', m' < m ∧ W (i + 1) m' H') ∧ ∀ x H', J.yld i H x H' → g x (wipe σ vs) H' fun σ2 H2 => wipe σ2 vs = wipe σ vs ∧ tt σ2 H2 fun b H3 =>
        if b = true then tk σ2 H3 fun y H4 => tv σ2 H4 fun z H5 => ∃ kvs k, y = kV k ∧ H5 D = some (.dK kvs) ∧ kvs.length < sizeLine ∧ Nx (upd H5 D (.dK (putK kvs k z))) else Nx H3) := by
  refine ⟨fun i m H => m = n - i ∧ i ≤ n ∧ Pv i H, ⟨n, rfl, Nat.zero_le _, h0⟩, ?_⟩
  rintro i m H ⟨rfl, le, p⟩
  have q := hG i H le p
  rcases Nat.lt_or_ge i n with lt | ge
  · exact .inr ⟨w.goes i H lt q, Pv (i + 1), fun H' p' => ⟨n - (i + 1), by omega, rfl, lt, p'⟩, fun x H' y => hs i x H H' lt p (w.yields i H x H' lt q y)⟩
  · obtain rfl : i = n := by omega
    exact .inl ⟨w.stops H q, hd H p⟩
/-! the attributes of a bag -/
theorem in_sh : ¬ (("inside" : Str) = "shared") := by decide +kernel
theorem si_f : (("shared" : Str) == "inside") = false := by decide +kernel
abbrev bfs (u v : V) : List (Str × V) := [(("inside" : Str), u), (("shared" : Str), v)]
theorem bf1 (u : V) : putF "inside" u [] = [(("inside" : Str), u)] := rfl
theorem bf2 (u v : V) : putF "shared" v [(("inside" : Str), u)] = bfs u v := by
  show (if ("inside" : Str) = "shared" then _ else _) = _
  rw [if_neg in_sh]
  all_goals rfl
theorem bfI (u u' v : V) : putF "inside" u' (bfs u v) = bfs u' v := by
  show (if ("inside" : Str) = "inside" then _ else _) = _
  rw [if_pos rfl]
theorem bl_in (u v : V) : List.lookup ("inside" : Str) (bfs u v) = some u := by
  rw [List.lookup_cons]
  simp
theorem bl_sh (u v : V) : List.lookup ("shared" : Str) (bfs u v) = some v := by
  rw [List.lookup_cons, si_f, List.lookup_cons]
  simp
theorem bl_no {m : Str} (u v : V) (h1 : (m == ("inside" : Str)) = false) (h2 : (m == ("shared" : Str)) = false) : List.lookup m (bfs u v) = none := by
  rw [List.lookup_cons, h1, List.lookup_cons, h2]
  rfl
/-! a dict of ints, each with True -/
def kv (ks : List Int) : List (Key × V) := ks.map fun n => ((Sum.inl n : Key), V.bl true)
def ins (ks : List Int) (n : Int) : List Int := if n ∈ ks then ks else ks ++ [n]
def outof (ks : List Int) (n : Int) : List Int := ks.filter fun m => decide (m ≠ n)
theorem kv_len (ks : List Int) : (kv ks).length = ks.length := List.length_map ..
theorem kv_val (n : Int) : ∀ ks : List Int, valV (kv ks) (Sum.inl n : Key) = if n ∈ ks then some (.bl true) else none
  | [] => rfl
  | m :: ks => by
    by_cases e : m = n
    · subst e
      show valV ((Sum.inl m, V.bl true) :: kv ks) _ = _
      rw [valV_pos rfl, if_pos List.mem_cons_self]
    · show valV ((Sum.inl m, V.bl true) :: kv ks) _ = _
      rw [valV_neg (by intro h; exact e (Sum.inl.inj h)), kv_val n ks]
      have : (n ∈ m :: ks) ↔ n ∈ ks := by
        rw [List.mem_cons]
        exact ⟨fun h => h.elim (fun h => absurd h.symm e) id, .inr⟩
      simp only [this]
theorem kv_put (ks : List Int) (n : Int) : putK (kv ks) (Sum.inl n : Key) (.bl true) = kv (ins ks n) := by
  by_cases h : n ∈ ks
  · have e1 : ins ks n = ks := if_pos h
    rw [e1]
    unfold putK
    rw [valV_any, kv_val, if_pos h]
    show (kv ks).map (fun p => if p.1 = Sum.inl n then (p.1, V.bl true) else p) = kv ks
    unfold kv
    rw [List.map_map]
    refine List.map_congr_left fun a _ => ?_
    show (if (Sum.inl a : Key) = Sum.inl n then ((Sum.inl a : Key), V.bl true) else ((Sum.inl a : Key), V.bl true)) = _
    split <;> rfl
  · have e1 : ins ks n = ks ++ [n] := if_neg h
    rw [e1, putK_new _ (by rw [kv_val, if_neg h])]
    unfold kv
    rw [List.map_append]
    rfl
theorem kv_drop (ks : List Int) (n : Int) : dropK (kv ks) (Sum.inl n : Key) = kv (outof ks n) := by
  unfold dropK kv outof
  rw [List.filter_map]
  refine congrArg _ (List.filter_congr fun m _ => ?_)
  show decide ((Sum.inl m : Key) ≠ Sum.inl n) = decide (m ≠ n)
  by_cases e : m = n
  · subst e; simp
  · simp [e]
theorem kv_keys (ks : List Int) : (kv ks).map (fun kv => kV kv.1) = ks.map V.int := by
  unfold kv
  rw [List.map_map]
  rfl
theorem kv_get {ks : List Int} {i : Nat} {k : Key} {v : V} (h : (kv ks)[i]? = some (k, v)) : ∃ n, ks[i]? = some n ∧ k = Sum.inl n := by
  unfold kv at h
  rw [List.getElem?_map] at h
  cases e : ks[i]? with
  | none => rw [e] at h; cases h
  | some n =>
    rw [e] at h
    injection h with h
    injection h with h1 h2
    exact ⟨n, rfl, h1.symm⟩
theorem ins_mem (ks : List Int) (n m : Int) : m ∈ ins ks n ↔ m ∈ ks ∨ m = n := by
  unfold ins
  split
  · rename_i h
    exact ⟨.inl, fun q => q.elim id fun e => e ▸ h⟩
  · simp
theorem ins_nd {ks : List Int} (h : ks.Nodup) (n : Int) : (ins ks n).Nodup := by
  unfold ins
  split
  · exact h
  · rename_i e
    refine List.nodup_append.mpr ⟨h, by simp, fun a ha b hb => ?_⟩
    simp only [List.mem_singleton] at hb
    subst hb
    exact fun q => e (q ▸ ha)
theorem ins_len (ks : List Int) (n : Int) : (ins ks n).length ≤ ks.length + 1 := by
  unfold ins
  split
  · omega
  · simp
theorem outof_mem (ks : List Int) (n m : Int) : m ∈ outof ks n ↔ m ∈ ks ∧ m ≠ n := by
  unfold outof
  simp [List.mem_filter]
theorem outof_nd {ks : List Int} (h : ks.Nodup) (n : Int) : (outof ks n).Nodup := h.filter _
theorem outof_len (ks : List Int) (n : Int) : (outof ks n).length ≤ ks.length := List.length_filter_le _ _
def insAll (ks ns : List Int) : List Int := ns.foldl ins ks
def outAll (ks ns : List Int) : List Int := ns.foldl outof ks
theorem insAll_mem (m : Int) : ∀ (ns ks : List Int), m ∈ insAll ks ns ↔ m ∈ ks ∨ m ∈ ns
  | [], ks => by simp [insAll]
  | n :: ns, ks => by
    show m ∈ insAll (ins ks n) ns ↔ _
    rw [insAll_mem m ns, ins_mem, List.mem_cons, or_assoc]
theorem insAll_nd : ∀ (ns : List Int) {ks : List Int}, ks.Nodup → (insAll ks ns).Nodup
  | [], _, h => h
  | n :: ns, ks, h => insAll_nd ns (ins_nd h n)
theorem insAll_len : ∀ (ns ks : List Int), (insAll ks ns).length ≤ ks.length + ns.length
  | [], ks => by simp [insAll]
  | n :: ns, ks => by
    have a := insAll_len ns (ins ks n)
    have b := ins_len ks n
    show (insAll (ins ks n) ns).length ≤ _
    rw [List.length_cons]
    omega
theorem outAll_mem (m : Int) : ∀ (ns ks : List Int), m ∈ outAll ks ns ↔ m ∈ ks ∧ m ∉ ns
  | [], ks => by simp [outAll]
  | n :: ns, ks => by
    show m ∈ outAll (outof ks n) ns ↔ _
    rw [outAll_mem m ns, outof_mem, List.mem_cons, not_or, and_assoc]
theorem outAll_nd : ∀ (ns : List Int) {ks : List Int}, ks.Nodup → (outAll ks ns).Nodup
  | [], _, h => h
  | n :: ns, ks, h => outAll_nd ns (outof_nd h n)
theorem outAll_len : ∀ (ns ks : List Int), (outAll ks ns).length ≤ ks.length
  | [], ks => by simp [outAll]
  | n :: ns, ks => Nat.le_trans (outAll_len ns _) (outof_len ks n)
theorem insAll_take (ks ns : List Int) {i : Nat} {n : Int} (h : ns[i]? = some n) : insAll ks (ns.take (i + 1)) = ins (insAll ks (ns.take i)) n := by
  unfold insAll
  rw [List.take_add_one, h, List.foldl_append]
  rfl
theorem outAll_take (ks ns : List Int) {i : Nat} {n : Int} (h : ns[i]? = some n) : outAll ks (ns.take (i + 1)) = outof (outAll ks (ns.take i)) n := by
  unfold outAll
  rw [List.take_add_one, h, List.foldl_append]
  rfl
/-- two rising lists with the same members are one -/
theorem rise_one : ∀ {l m : List Int}, l.Pairwise (· < ·) → m.Pairwise (· < ·) → (∀ x, x ∈ l ↔ x ∈ m) → l = m
  | [], [], _, _, _ => rfl
  | [], y :: m, _, _, h => by have := (h y).2 List.mem_cons_self; cases this
  | x :: l, [], _, _, h => by have := (h x).1 List.mem_cons_self; cases this
  | x :: l, y :: m, hl, hm, h => by
    obtain ⟨h1, h2⟩ := List.pairwise_cons.mp hl
    obtain ⟨h3, h4⟩ := List.pairwise_cons.mp hm
    have exy : x = y := by
      rcases List.mem_cons.mp ((h x).1 List.mem_cons_self) with e | e
      · exact e
      · rcases List.mem_cons.mp ((h y).2 List.mem_cons_self) with e' | e'
        · exact e'.symm
        · have a := h3 x e
          have b := h1 y e'
          omega
    subst exy
    refine congrArg _ (rise_one h2 h4 fun z => ⟨fun hz => ?_, fun hz => ?_⟩)
    · rcases List.mem_cons.mp ((h z).1 (List.mem_cons_of_mem _ hz)) with e | e
      · subst e; have := h1 z hz; omega
      · exact e
    · rcases List.mem_cons.mp ((h z).2 (List.mem_cons_of_mem _ hz)) with e | e
      · subst e; have := h3 z hz; omega
      · exact e
theorem le_nd_lt : ∀ {l : List Int}, l.Pairwise (· ≤ ·) → l.Nodup → l.Pairwise (· < ·)
  | [], _, _ => .nil
  | x :: l, h, nd => by
    obtain ⟨h1, h2⟩ := List.pairwise_cons.mp h
    obtain ⟨n1, n2⟩ := List.nodup_cons.mp nd
    refine List.pairwise_cons.mpr ⟨fun y hy => ?_, le_nd_lt h2 n2⟩
    have a := h1 y hy
    have b : x ≠ y := fun e => n1 (e ▸ hy)
    omega
/-- what sorted gives of the keys -/
theorem sorted_is {ks ns' xs : List Int} (hp : ns'.Perm ks) (hs : ns'.Pairwise (· ≤ ·)) (nd : ks.Nodup) (hx : xs.Pairwise (· < ·)) (hm : ∀ x, x ∈ ks ↔ x ∈ xs) : ns' = xs :=
  rise_one (le_nd_lt hs (hp.nodup_iff.mpr nd)) hx fun x => (hp.mem_iff).trans (hm x)
end L2.G42

set_option Elab.async false
set_option linter.all false
set_option maxRecDepth 100000
set_option maxHeartbeats 4000000
namespace L2.G42
open PySem PySem.Spec PyProof.Rows
/-- a def that lets nothing out, as a caller sees it: its name, its promise, the values that fill up -/
structure Cl (P : Program) (w : World) (K : PySem.W.Frag) (mg : Str → Option Value) (base : Heap) (k : Nat) (x : Str) (sp : Sp) (dvs : List V) : Prop where
  ex : ∃ (f : Addr) (fd : FuncData) (ps : List Str) (ds : List Value), FnOk P w K mg base CX0 k f fd ps sp ∧ mg x = some (.ref f) ∧ PySem.W.keepIn K (.ref f) = true ∧ Binds K fd ps ds ∧ Vals dvs ds
/-- a method of the class at C -/
structure Mt (P : Program) (w : World) (K : PySem.W.Frag) (mg : Str → Option Value) (base : Heap) (k : Nat) (C : Addr) (m : Str) (sp : Sp) (dvs : List V) : Prop where
  ex : ∃ (f : Addr) (fd : FuncData) (ps : List Str) (ds : List Value), Cls K C ∧ Meth K C m f ∧ FnOk P w K mg base CX0 k f fd ps sp ∧ Binds K fd ps ds ∧ Vals dvs ds
/-- the class at C, called -/
structure Nw (P : Program) (w : World) (K : PySem.W.Frag) (mg : Str → Option Value) (base : Heap) (k : Nat) (x : Str) (C : Addr) (sp : Sp) (dvs : List V) : Prop where
  ex : ∃ (f : Addr) (fd : FuncData) (ps : List Str) (ds : List Value), Mk K C f ∧ FnOk P w K mg base CX0 k f fd ps sp ∧ mg x = some (.ref C) ∧ Binds K fd ps ds ∧ Vals dvs ds
section
variable {X : Cx} {k j : Nat} {C : Addr} {x m : Str} {sp : Sp} {dvs : List V} {p pos apos : Pos} {e o : Expr} {es : List Expr} {ta : TE} {t : TA}
theorem pe_c (c : Cl X.prog X.w X.K X.mg X.base k x sp dvs) (hr : Room j X.A) (hk : k ≤ j) (hg : Gl X x) (ha : PA X (e :: es) t) (hdb : (x == ("__debug__" : Str)) = false := by decide)
    (he : starEach (e :: es) X.env = (false, eval e X.env) :: starEach es X.env := by rfl) (hpl : (backTo pos (starEach es X.env)).any (·.1) = false := by rfl) : PE X (.Call (.Name x p) (e :: es) [] pos) (tCall sp dvs E0 t) :=
  let ⟨_, _, _, _, F, hm, kp, b, d⟩ := c.ex
  pe_call F (hr.mono hk) hg hm kp b d pass0 ha hdb he hpl
theorem pe_c0 (c : Cl X.prog X.w X.K X.mg X.base k x sp dvs) (hr : Room j X.A) (hk : k ≤ j) (hg : Gl X x) (hdb : (x == ("__debug__" : Str)) = false := by decide) : PE X (.Call (.Name x p) [] [] pos) (tCall sp dvs E0 tNil) :=
  let ⟨_, _, _, _, F, hm, kp, b, d⟩ := c.ex
  pe_call0 F (hr.mono hk) hg hm kp b d pass0 hdb
theorem pe_mk (c : Nw X.prog X.w X.K X.mg X.base k x C sp dvs) (hr : Room j X.A) (hk : k + 1 ≤ j) (hg : Gl X x) (ha : PA X (e :: es) t) (hdb : (x == ("__debug__" : Str)) = false := by decide)
    (he : starEach (e :: es) X.env = (false, eval e X.env) :: starEach es X.env := by rfl) (hpl : (backTo pos (starEach es X.env)).any (·.1) = false := by rfl) : PE X (.Call (.Name x p) (e :: es) [] pos) (tMake C sp dvs E0 t) :=
  let ⟨_, _, _, _, M, F, hm, b, d⟩ := c.ex
  pe_make M F (hr.mono hk) hg hm b d pass0 ha hdb he hpl
theorem pe_mt {pl : Sem Bool} (c : Mt X.prog X.w X.K X.mg X.base k C m sp dvs) (hr : Room j X.A) (hk : k ≤ j) (he : PE X o ta) (ha : PA X (e :: es) t)
    (hst : starEach (e :: es) X.env = (false, eval e X.env) :: starEach es X.env := by rfl) (hpl : (backTo pos (starEach es X.env)).any (·.1) = false := by rfl)
    (ht : eval (.Call (.Attribute o m apos) (e :: es) [] pos) X.env = (eval o X.env >>= fun ov => standAt apos.atName >>= fun _ => holding [ov] (getMethod ov m pl) >>= fun q => callWith pos q.1 q.2 (backTo pos (starEach (e :: es) X.env)) (backToKw pos (keywordEach [] X.env))) := by rfl) :
    PE X (.Call (.Attribute o m apos) (e :: es) [] pos) (tMeth C m sp dvs E0 ta t) :=
  let ⟨_, _, _, _, cl, hm, F, b, d⟩ := c.ex
  pe_meth (pl := pl) he cl hm F (hr.mono hk) b d pass0 ha hst hpl ht
theorem pe_mt0 {pl : Sem Bool} (c : Mt X.prog X.w X.K X.mg X.base k C m sp dvs) (hr : Room j X.A) (hk : k ≤ j) (he : PE X o ta)
    (ht : eval (.Call (.Attribute o m apos) [] [] pos) X.env = (eval o X.env >>= fun ov => standAt apos.atName >>= fun _ => holding [ov] (getMethod ov m pl) >>= fun q => callWith pos q.1 q.2 (backTo pos (starEach [] X.env)) (backToKw pos (keywordEach [] X.env))) := by rfl) :
    PE X (.Call (.Attribute o m apos) [] [] pos) (tMeth C m sp dvs E0 ta tNil) :=
  let ⟨_, _, _, _, cl, hm, F, b, d⟩ := c.ex
  pe_meth0 (pl := pl) he cl hm F (hr.mono hk) b d pass0 ht
end
end L2.G42

set_option Elab.async false
set_option linter.all false
set_option maxRecDepth 100000
set_option maxHeartbeats 4000000
namespace K10
open PySem L2 L2.G42
open PyProof.Rows (boot_isinstance boot_int boot_bool boot_list boot_set boot_abs boot_enumerate)
def top (i : Nat) : Stmt := PySem.Challenge.pw_nestedwrites_k10_bags_by_operators.main.body.getD i (.Pass ⟨0, 0, 0, 0⟩)
abbrev sIsNum : Stmt := top 5
abbrev sIsVal : Stmt := top 8
abbrev sInit : Stmt := inClass (top 9) 0
abbrev sTold : Stmt := inClass (top 9) 3
abbrev sAdd : Stmt := inClass (top 9) 4
abbrev sClear : Stmt := inClass (top 9) 5
abbrev sIor : Stmt := inClass (top 9) 6
abbrev sIsub : Stmt := inClass (top 9) 7
abbrev sOr : Stmt := inClass (top 9) 8
abbrev sSub : Stmt := inClass (top 9) 9
/-- what a bag may hold -/
def Fits (n : Int) : Prop := -(10 ^ 30) ≤ n ∧ n ≤ 10 ^ 30
/-- a bag at p: its dict at d holds ks -/
structure BagAt (C : Addr) (H : Hp) (p d : Addr) (sh : Bool) (ks : List Int) : Prop where
  ob : ∃ dx, H p = some (.ins C dx (bfs (.ref d) (.bl sh)))
  dc : H d = some (.dK (kv ks))
/-- names of the module that are the built-in ones; the class -/
structure Txt (K : PySem.W.Frag) (mg : Str → Option Value) (C : Addr) : Prop where
  cl : Cls K C
  nI : NoAttr K C "inside"
  nS : NoAttr K C "shared"
  mgC : mg "Bag" = some (.ref C)
  isi : mg "isinstance" = none
  int : mg "int" = none
  bool : mg "bool" = none
  list : mg "list" = none
  sorted : mg "sorted" = none
  len : mg "len" = none
  set : mg "set" = none
  range : mg "range" = none
  enumerate : mg "enumerate" = none
  max : mg "max" = none
  min : mg "min" = none
  abs : mg "abs" = none
  any : mg "any" = none
  gr : ∃ t, mg "GREATEST" = some (.int (10 ^ 30) t)
/-- the heap has grown, or changed at the addresses of S alone -/
def But (S : Addr → Prop) (H H' : Hp) : Prop := ∀ b o, H b = some o → ¬ S b → H' b = some o
section
variable {P : Program} {w : World} {K : PySem.W.Frag} {mg : Str → Option Value} {base : Heap} {C : Addr}
def spIsNum : Sp := fun vs H Q _ => ∃ n : Int, vs = [.int n] ∧ Q (.bl true) H
theorem scIsNum : FnScope ["thing"] ["thing"] (defScope sIsNum) := ⟨rfl, rfl, rfl, by decide +kernel, rfl, by decide +kernel, by decide +kernel⟩
theorem ok_isNum {f : Addr} {fd : FuncData} (F : Fun K "is_number" "is_number" sIsNum f fd) (T : Txt K mg C) : FnOk P w K mg base CX0 1 f fd ["thing"] spIsNum := by
  refine F.ok scIsNum (fun vs H Q E h => ?_) (fun cdv A outer s H vs Q E hr h => ?_)
  · obtain ⟨n, rfl, _⟩ := h
    rfl
  · obtain ⟨n, rfl, k⟩ := h
    refine ⟨_, pss_one (ps_ret (pe_and (pe_callB call_isi (by rfl) T.isi boot_isinstance (pa_cons (pv 0) (pa_cons (pe_bltn (v := .ty "int") (by rfl) T.int boot_int rfl) pa_nil)))
      (pe_one (pe_not (pe_callB call_isi (by rfl) T.isi boot_isinstance (pa_cons (pv 0) (pa_cons (pe_bltn (v := .ty "bool") (by rfl) T.bool boot_bool rfl) pa_nil))))))), ?_⟩
    refine ⟨_, rfl, .int n, .ty "int", .type "int", .type "int", true, rfl, .ty _, .base (.int _), kit_ty (by decide +kernel), true, rfl, iteT ?_⟩
    exact ⟨_, rfl, .int n, .ty "bool", .type "int", .type "bool", false, rfl, .ty _, .base (.int _), kit_ty (by decide +kernel), false, rfl, k⟩
def spIsVal : Sp := fun vs H Q _ => ∃ n : Int, vs = [.int n] ∧ Fits n ∧ Q (.bl true) H
theorem scIsVal : FnScope ["thing"] ["thing"] (defScope sIsVal) := ⟨rfl, rfl, rfl, by decide +kernel, rfl, by decide +kernel, by decide +kernel⟩
theorem ok_isVal {f g : Addr} {fd gd : FuncData} (F : Fun K "is_value" "is_value" sIsVal f fd) (T : Txt K mg C) (G : FnOk P w K mg base CX0 1 g gd ["thing"] spIsNum) (mgG : mg "is_number" = some (.ref g)) (kG : PySem.W.keepIn K (.ref g) = true) (bG : Binds K gd ["thing"] []) :
    FnOk P w K mg base CX0 2 f fd ["thing"] spIsVal := by
  refine F.ok scIsVal (fun vs H Q E h => ?_) (fun cdv A outer s H vs Q E hr h => ?_)
  · obtain ⟨n, rfl, _⟩ := h
    rfl
  · obtain ⟨n, rfl, hn, k⟩ := h
    obtain ⟨t, gr⟩ := T.gr
    refine ⟨_, pss_one (ps_ret (pe_and (pe_call G hr rfl mgG kG bG .nil pass0 (pa_cons (pv 0) pa_nil))
      (pe_one (pe_chain op_le op_le (pe_un un_neg (pe_glob (v := .int (10 ^ 30)) rfl gr ⟨t, rfl⟩)) (pv 0) (pe_glob (v := .int (10 ^ 30)) rfl gr ⟨t, rfl⟩))))), ?_⟩
    refine ⟨_, rfl, n, rfl, true, rfl, iteT ?_⟩
    refine ⟨_, rfl, _, rfl, _, _, rfl, rfl, true, (congrArg V.bl (decide_eq_true hn.1)), iteT ?_⟩
    exact ⟨_, _, rfl, rfl, goT hn.2 k⟩
end
end K10

set_option Elab.async false
set_option linter.all false
set_option maxRecDepth 100000
set_option maxHeartbeats 4000000
namespace K10
open PySem L2 L2.G42
open PyProof.Rows (boot_isinstance boot_int boot_bool boot_list boot_set boot_abs boot_enumerate)
theorem boot_sorted : bootBuiltins "sorted" = some (.builtin "sorted") := by decide +kernel
theorem But.refl {S : Addr → Prop} {H : Hp} : But S H H := fun _ _ h _ => h
theorem But.trans {S : Addr → Prop} {H H1 H2 : Hp} (a : But S H H1) (b : But S H1 H2) : But S H H2 := fun x o h n => b x o (a x o h n) n
theorem But.new {S : Addr → Prop} {H : Hp} {p : Addr} {o : HO} (h : H p = none) : But S H (upd H p o) := fun a u e _ => by
  rw [upd_ne (ne_of_none e h)]
  exact e
theorem But.at {S : Addr → Prop} {H : Hp} {p : Addr} {o : HO} (h : S p) : But S H (upd H p o) := fun a u e n => by
  rw [upd_ne (fun q => n (by rw [q]; exact h))]
  exact e
theorem But.mono {S S' : Addr → Prop} {H H' : Hp} (a : But S H H') (h : ∀ x, S x → S' x) : But S' H H' := fun x o e n => a x o e fun q => n (h x q)
/-- a change of what was not there before -/
theorem But.fresh {S : Addr → Prop} {H H' : Hp} {p : Addr} {o : HO} (a : But S H H') (h : H p = none) : But S H (upd H' p o) := fun x u e n => by
  rw [upd_ne (ne_of_none e h)]
  exact a x u e n
theorem But.free {H H' : Hp} (a : But (fun _ => False) H H') {p : Addr} (h : H' p = none) : H p = none := by
  cases e : H p with
  | none => rfl
  | some o => rw [a p o e id] at h; cases h
theorem szl {n : Nat} (h : n ≤ 100000) : n < sizeLine := Nat.lt_of_le_of_lt h (by decide)
theorem szle {n : Nat} (h : n ≤ 100000) : n ≤ sizeLine := Nat.le_of_lt (szl h)
section
variable {P : Program} {w : World} {K : PySem.W.Frag} {mg : Str → Option Value} {base : Heap} {C : Addr}
/-- what a call of is_value wants -/
structure IsV (P : Program) (w : World) (K : PySem.W.Frag) (mg : Str → Option Value) (base : Heap) : Prop where
  ex : ∃ (f : Addr) (fd : FuncData), FnOk P w K mg base CX0 2 f fd ["thing"] spIsVal ∧ mg "is_value" = some (.ref f) ∧ PySem.W.keepIn K (.ref f) = true ∧ Binds K fd ["thing"] []
/-! __init__ -/
def spInit (K : PySem.W.Frag) (C : Addr) : Sp := fun vs H Q _ => ∃ (p dx a : Addr) (ns : List Int) (sh : Bool), vs = [.ref p, .ref a, .bl sh] ∧ H p = some (.ins C dx []) ∧ SqL K H a (ns.map V.int) ∧ (∀ n ∈ ns, Fits n) ∧ ns.length ≤ 1000 ∧
  ∀ (d : Addr) (H' : Hp), H d = none → BagAt C H' p d sh (insAll [] ns) → But (· = p) H H' → Q .non H'
abbrev NInit : List Str := ["self", "values", "shared", "value"]
theorem scInit : FnScope NInit ["self", "values", "shared"] (defScope sInit) := ⟨rfl, rfl, rfl, by decide +kernel, rfl, by decide +kernel, by decide +kernel⟩
theorem ok_init {dvs : List V} {kws : List (Str × V)} {f : Addr} {fd : FuncData} (F : FunD K "__init__" "Bag.__init__" (defArgs sInit) (defBody sInit) (defScope sInit) dvs kws f fd) (T : Txt K mg C) (V0 : IsV P w K mg base) :
    FnOk P w K mg base CX0 3 f fd ["self", "values", "shared"] (spInit K C) := by
  refine F.ok scInit (fun vs H Q E h => ?_) (fun cdv A outer s H vs Q E hr h => ?_)
  · obtain ⟨p, dx, a, ns, sh, rfl, _⟩ := h
    rfl
  · obtain ⟨p, dx, a, ns, sh, rfl, hp, ha, fit, few, k⟩ := h
    obtain ⟨g, gd, G, mgG, kG, bG⟩ := V0.ex
    refine ⟨_, PSs.nox (pss_cons (ps_for PassesOwn.never rfl (pi_list (pv 1)) (pg_name (i := 3) scInit.nd rfl (.inl rfl))
        (pss_one (ps_if (pt_not (pt_val (pe_call G hr rfl mgG kG bG .nil pass0 (pa_cons (pv 3) pa_nil)))) (pss_one ps_never) pss_nil)))
      (pss_cons (ps_fld (pv 0) (pe_dc (own := [("value", 3)]) (g := gName 3) rfl scInit.nd (pi_list (pv 1)) (blkOk_by (own := [("value", 3)]) (N := NInit) (sc := defScope sInit) (by decide +kernel))
          (fun _ _ _ _ _ => pg_name (i := 3) scInit.nd rfl (.inl rfl)) (fun _ _ _ _ _ => pts_nil) (fun _ _ _ _ _ => pv 3) (fun _ _ _ _ _ => pe_bl)) rfl)
      (pss_one (ps_fld (pv 0) (pv 2) rfl)))), ?_⟩
    -- the check of the values
    refine ⟨_, rfl, a, rfl, ⟨_, ha⟩, for_list (xs := ns.map V.int) (fun _ σ H' => H' = H ∧ ∃ x, σ = [some (.ref p), some (.ref a), some (.bl sh), x]) ⟨rfl, none, rfl⟩ (fun _ _ _ _ e => e.1 ▸ ha) ?_ ?_⟩
    · rintro i x σ H' hx ⟨rfl, y, rfl⟩
      rw [List.getElem?_map] at hx
      obtain ⟨n, hn, rfl⟩ := Option.map_eq_some_iff.mp hx
      refine ⟨_, rfl, n, rfl, fit n (List.mem_of_getElem? hn), true, rfl, ?_⟩
      exact iteF ⟨rfl, _, rfl⟩
    · rintro σ H' ⟨rfl, y, rfl⟩
      -- self.inside = {value: True for value in values}
      refine ⟨_, rfl, a, rfl, ⟨_, ha⟩, fun d hd => dc_it (walk_list (xs := ns.map V.int)) (fun i H1 => H1 d = some (.dK (kv (insAll [] (ns.take i)))) ∧ But (fun _ => False) H' H1) ⟨upd_same, But.new hd⟩ (fun i H1 _ q => ?_) (fun i x H1 H2 hi q hy => ?_) (fun H1 q => ?_)⟩
      · rcases ha with (h | ⟨o, h⟩) | h
        · exact .inl (.inl (q.2 _ _ h id))
        · exact .inl (.inr ⟨o, q.2 _ _ h id⟩)
        · exact .inr h
      · obtain ⟨rfl, hx⟩ := hy
        rw [List.getElem?_map] at hx
        obtain ⟨n, hn, rfl⟩ := Option.map_eq_some_iff.mp hx
        refine ⟨rfl, ?_⟩
        refine ⟨_, rfl, kv (insAll [] (ns.take i)), Sum.inl n, rfl, q.1, szl ?_, ?_, But.fresh q.2 hd⟩
        · have := insAll_len (ns.take i) []
          rw [kv_len]
          simp only [List.length_take, List.length_nil] at this
          omega
        · rw [upd_same, kv_put, insAll_take [] ns hn]
      · have e : ns.take (ns.map V.int).length = ns := by rw [List.length_map]; exact List.take_length
        rw [e] at q
        have npd : p ≠ d := ne_of_none hp hd
        refine ⟨_, rfl, p, C, dx, [], rfl, q.2 _ _ hp id, T.cl, T.nI, (by show 0 < 1000; decide), _, rfl, _, rfl, p, C, dx, _, rfl, upd_same, T.cl, T.nS, (by show 1 < 1000; decide), ?_⟩
        refine k d _ hd ⟨⟨dx, Eq.trans upd_same (by rw [bf1, bf2])⟩, by rw [upd_ne npd.symm, upd_ne npd.symm]; exact q.1⟩ fun b o hb nb => ?_
        rw [upd_ne nb, upd_ne nb]
        exact q.2 b o hb id
/-! told -/
def spTold (C : Addr) : Sp := fun vs H Q _ => ∃ (p d : Addr) (sh : Bool) (ks xs : List Int), vs = [.ref p] ∧ BagAt C H p d sh ks ∧ ks.Nodup ∧ xs.Pairwise (· < ·) ∧ (∀ x, x ∈ ks ↔ x ∈ xs) ∧
  ∀ (q : Addr) (H' : Hp), H q = none → H' q = some (.lst (xs.map V.int)) → But (fun _ => False) H H' → Q (.ref q) H'
theorem scTold : FnScope ["self"] ["self"] (defScope sTold) := ⟨rfl, rfl, rfl, by decide +kernel, rfl, by decide +kernel, by decide +kernel⟩
theorem ok_told {f : Addr} {fd : FuncData} (F : Fun K "told" "Bag.told" sTold f fd) (T : Txt K mg C) : FnOk P w K mg base CX0 1 f fd ["self"] (spTold C) := by
  refine F.ok scTold (fun vs H Q E h => ?_) (fun cdv A outer s H vs Q E hr h => ?_)
  · obtain ⟨p, d, sh, ks, xs, rfl, _⟩ := h
    rfl
  · obtain ⟨p, d, sh, ks, xs, rfl, ⟨⟨dx, ob⟩, dc⟩, nd, hx, hm, k⟩ := h
    refine ⟨_, pss_one (ps_ret (pe_callB cr_sortedI (by rfl) T.sorted boot_sorted (pa_cons (pe_callTy (call_list_dK rfl) (by rfl) T.list boot_list (pa_cons (pe_fld (pv 0) rfl) pa_nil)) pa_nil))), ?_⟩
    refine ⟨_, rfl, p, C, dx, _, _, rfl, ob, T.cl, T.nI, bl_in _ _, d, kv ks, rfl, dc, fun l hl => ?_⟩
    rw [kv_keys]
    refine ⟨l, ks, rfl, SqL.of upd_same, fun ns' q hp hs hq => ?_⟩
    have hq0 : H q = none := But.free (But.new hl) hq
    rw [sorted_is hp hs nd hx hm]
    exact k q _ hq0 upd_same (But.fresh (But.new hl) hq0)
/-! add -/
def spAdd (C : Addr) : Sp := fun vs H Q _ => ∃ (p d : Addr) (sh : Bool) (ks : List Int) (n : Int), vs = [.ref p, .int n] ∧ BagAt C H p d sh ks ∧ Fits n ∧ ks.length ≤ 10000 ∧ Q .non (upd H d (.dK (kv (ins ks n))))
theorem scAdd : FnScope ["self", "value"] ["self", "value"] (defScope sAdd) := ⟨rfl, rfl, rfl, by decide +kernel, rfl, by decide +kernel, by decide +kernel⟩
theorem ok_add {f : Addr} {fd : FuncData} (F : Fun K "add" "Bag.add" sAdd f fd) (T : Txt K mg C) (V0 : IsV P w K mg base) : FnOk P w K mg base CX0 3 f fd ["self", "value"] (spAdd C) := by
  refine F.ok scAdd (fun vs H Q E h => ?_) (fun cdv A outer s H vs Q E hr h => ?_)
  · obtain ⟨p, d, sh, ks, n, rfl, _⟩ := h
    rfl
  · obtain ⟨p, d, sh, ks, n, rfl, ⟨⟨dx, ob⟩, dc⟩, fit, few, k⟩ := h
    obtain ⟨g, gd, G, mgG, kG, bG⟩ := V0.ex
    refine ⟨_, pss_cons (ps_if (pt_not (pt_val (pe_call G hr rfl mgG kG bG .nil pass0 (pa_cons (pv 1) pa_nil)))) (pss_one ps_never) pss_nil)
      (pss_one (ps_dput (hu_of hr) (pe_fld (pv 0) rfl) (pv 1) pe_bl rfl)), ?_⟩
    refine ⟨_, rfl, n, rfl, fit, true, rfl, iteF ?_⟩
    refine ⟨_, rfl, p, C, dx, _, _, rfl, ob, T.cl, T.nI, bl_in _ _, _, rfl, d, _, rfl, DPut.k (k := Sum.inl n) dc (by rw [kv_len]; exact szl (by omega)), ?_⟩
    rw [kv_put]
    exact k
/-! clear -/
def spClear (C : Addr) : Sp := fun vs H Q _ => ∃ (p d : Addr) (sh : Bool) (ks : List Int), vs = [.ref p] ∧ BagAt C H p d sh ks ∧ ∀ (d' : Addr) (H' : Hp), H d' = none → BagAt C H' p d' sh [] → But (· = p) H H' → Q .non H'
theorem scClear : FnScope ["self"] ["self"] (defScope sClear) := ⟨rfl, rfl, rfl, by decide +kernel, rfl, by decide +kernel, by decide +kernel⟩
theorem ok_clear {f : Addr} {fd : FuncData} (F : Fun K "clear" "Bag.clear" sClear f fd) (T : Txt K mg C) : FnOk P w K mg base CX0 1 f fd ["self"] (spClear C) := by
  refine F.ok scClear (fun vs H Q E h => ?_) (fun cdv A outer s H vs Q E hr h => ?_)
  · obtain ⟨p, d, sh, ks, rfl, _⟩ := h
    rfl
  · obtain ⟨p, d, sh, ks, rfl, ⟨⟨dx, ob⟩, dc⟩, k⟩ := h
    refine ⟨_, pss_one (ps_fld (pv 0) pe_dnewK rfl), ?_⟩
    intro d' hd'
    have ne : p ≠ d' := ne_of_none ob hd'
    refine ⟨_, rfl, p, C, dx, _, rfl, (by rw [upd_ne ne]; exact ob), T.cl, T.nI, (by show 2 < 1000; decide), ?_⟩
    refine k d' _ hd' ⟨⟨dx, Eq.trans upd_same (by rw [bfI])⟩, by rw [upd_ne ne.symm, upd_same]; rfl⟩ fun b o hb nb => ?_
    rw [upd_ne nb, upd_ne (ne_of_none hb hd')]
    exact hb
end
end K10

set_option Elab.async false
set_option linter.all false
set_option maxRecDepth 100000
set_option maxHeartbeats 4000000
namespace K10
open PySem L2 L2.G42
open PyProof.Rows (boot_isinstance boot_int boot_bool boot_list boot_set boot_abs boot_enumerate)
section
variable {P : Program} {w : World} {K : PySem.W.Frag} {mg : Str → Option Value} {base : Heap} {C : Addr}
theorem BagAt.same {S : Addr → Prop} {H H' : Hp} {p d : Addr} {sh : Bool} {ks : List Int} (b : BagAt C H p d sh ks) (e : But S H H') (hp : ¬ S p) (hd : ¬ S d) : BagAt C H' p d sh ks := by
  obtain ⟨⟨dx, ob⟩, dc⟩ := b
  exact ⟨⟨dx, e _ _ ob hp⟩, e _ _ dc hd⟩
theorem BagAt.grow {H H' : Hp} {p d : Addr} {sh : Bool} {ks : List Int} (b : BagAt C H p d sh ks) (e : But (fun _ => False) H H') : BagAt C H' p d sh ks := b.same e id id
theorem map_int_inj : ∀ {l m : List Int}, l.map V.int = m.map V.int → l = m
  | [], [], _ => rfl
  | [], _ :: _, h => by cases h
  | _ :: _, [], h => by cases h
  | x :: l, y :: m, h => by
    injection h with h1 h2
    injection h1 with h1
    rw [h1, map_int_inj h2]
/-- two bags whose dicts are one are one, and hold the same -/
structure Two (C : Addr) (H : Hp) (p d q e : Addr) (sh sg : Bool) (ks ls : List Int) : Prop where
  b : BagAt C H p d sh ks
  c : BagAt C H q e sg ls
  one : d = e → ks = ls
/-! |= -/
def spIor (C : Addr) : Sp := fun vs H Q _ => ∃ (p d q e : Addr) (sh sg : Bool) (ks ls : List Int), vs = [.ref p, .ref q] ∧ BagAt C H p d sh ks ∧ BagAt C H q e sg ls ∧ ks.length ≤ 1000 ∧ ls.length ≤ 1000 ∧
  ∀ H' : Hp, BagAt C H' p d sh (insAll ks ls) → But (· = d) H H' → Q (.ref p) H'
theorem scIor : FnScope ["self", "other", "value"] ["self", "other"] (defScope sIor) := ⟨rfl, rfl, rfl, by decide +kernel, rfl, by decide +kernel, by decide +kernel⟩
theorem ok_ior {f : Addr} {fd : FuncData} (F : Fun K "__ior__" "Bag.__ior__" sIor f fd) (T : Txt K mg C) : FnOk P w K mg base CX0 1 f fd ["self", "other"] (spIor C) := by
  refine F.ok scIor (fun vs H Q E h => ?_) (fun cdv A outer s H vs Q E hr h => ?_)
  · obtain ⟨p, d, q, e, sh, sg, ks, ls, rfl, _⟩ := h
    rfl
  · obtain ⟨p, d, q, e, sh, sg, ks, ls, rfl, B, ⟨⟨dy, ob'⟩, dc'⟩, few, few', k⟩ := h
    have hu := hu_of hr
    refine ⟨_, pss_cons (ps_for PassesOwn.never rfl (pi_list (pe_callTy (call_list_dK rfl) (by rfl) T.list boot_list (pa_cons (pe_fld (pv 1) rfl) pa_nil))) (pg_name (i := 2) scIor.nd rfl (.inl rfl))
        (pss_one (ps_dput hu (pe_fld (pv 0) rfl) (pv 2) pe_bl rfl)))
      (pss_one (ps_ret (pv 0))), ?_⟩
    refine ⟨_, rfl, q, C, dy, _, _, rfl, ob', T.cl, T.nI, bl_in _ _, e, kv ls, rfl, dc', fun l hl => ?_⟩
    rw [kv_keys]
    have hld : l ≠ d := (ne_of_none B.dc hl).symm
    refine ⟨l, rfl, ⟨_, SqL.of upd_same⟩, for_list (xs := ls.map V.int) (fun i σ H1 => (∃ x, σ = [some (.ref p), some (.ref q), x]) ∧ BagAt C H1 p d sh (insAll ks (ls.take i)) ∧ But (· = d) (upd H l (.lst (ls.map V.int))) H1) ⟨⟨none, rfl⟩, B.grow (But.new hl), But.refl⟩ (fun i σ H1 _ h => SqL.of (h.2.2 _ _ upd_same hld)) ?_ ?_⟩
    · rintro i x σ H1 hx ⟨⟨y, rfl⟩, ⟨⟨dx, ob⟩, dc⟩, bt⟩
      rw [List.getElem?_map] at hx
      obtain ⟨n, hn, rfl⟩ := Option.map_eq_some_iff.mp hx
      have npd : p ≠ d := ne_of ob dc (by intro z; cases z)
      refine ⟨_, rfl, p, C, dx, _, _, rfl, ob, T.cl, T.nI, bl_in _ _, _, rfl, d, _, rfl, DPut.k (k := Sum.inl n) dc ?_, ⟨_, rfl⟩, ⟨⟨dx, by rw [upd_ne npd]; exact ob⟩, ?_⟩, bt.trans (But.at rfl)⟩
      · have := insAll_len (ls.take i) ks
        rw [kv_len]
        simp only [List.length_take] at this
        exact szl (by omega)
      · rw [upd_same, kv_put, insAll_take ks ls hn]
    · rintro σ H1 ⟨⟨y, rfl⟩, B1, bt⟩
      have e1 : ls.take (ls.map V.int).length = ls := by rw [List.length_map]; exact List.take_length
      rw [e1] at B1
      exact ⟨_, rfl, k H1 B1 ((But.new hl).trans bt)⟩
/-! -= -/
def spIsub (C : Addr) : Sp := fun vs H Q _ => ∃ (p d q e : Addr) (sh sg : Bool) (ks ls : List Int), vs = [.ref p, .ref q] ∧ BagAt C H p d sh ks ∧ BagAt C H q e sg ls ∧ ks.length ≤ 1000 ∧ ls.length ≤ 1000 ∧
  ∀ H' : Hp, BagAt C H' p d sh (outAll ks ls) → But (· = d) H H' → Q (.ref p) H'
theorem scIsub : FnScope ["self", "other", "value"] ["self", "other"] (defScope sIsub) := ⟨rfl, rfl, rfl, by decide +kernel, rfl, by decide +kernel, by decide +kernel⟩
theorem ok_isub {f : Addr} {fd : FuncData} (F : Fun K "__isub__" "Bag.__isub__" sIsub f fd) (T : Txt K mg C) : FnOk P w K mg base CX0 1 f fd ["self", "other"] (spIsub C) := by
  refine F.ok scIsub (fun vs H Q E h => ?_) (fun cdv A outer s H vs Q E hr h => ?_)
  · obtain ⟨p, d, q, e, sh, sg, ks, ls, rfl, _⟩ := h
    rfl
  · obtain ⟨p, d, q, e, sh, sg, ks, ls, rfl, B, ⟨⟨dy, ob'⟩, dc'⟩, few, few', k⟩ := h
    refine ⟨_, pss_cons (ps_for PassesOwn.never rfl (pi_list (pe_callTy (call_list_dK rfl) (by rfl) T.list boot_list (pa_cons (pe_fld (pv 1) rfl) pa_nil))) (pg_name (i := 2) scIsub.nd rfl (.inl rfl))
        (pss_one (ps_expr (pe_dpop2 (pe_fld (pv 0) rfl) (pv 2) pe_non ⟨rfl, rfl, rfl, rfl⟩))))
      (pss_one (ps_ret (pv 0))), ?_⟩
    refine ⟨_, rfl, q, C, dy, _, _, rfl, ob', T.cl, T.nI, bl_in _ _, e, kv ls, rfl, dc', fun l hl => ?_⟩
    rw [kv_keys]
    have hld : l ≠ d := (ne_of_none B.dc hl).symm
    refine ⟨l, rfl, ⟨_, SqL.of upd_same⟩, for_list (xs := ls.map V.int) (fun i σ H1 => (∃ x, σ = [some (.ref p), some (.ref q), x]) ∧ BagAt C H1 p d sh (outAll ks (ls.take i)) ∧ But (· = d) (upd H l (.lst (ls.map V.int))) H1) ⟨⟨none, rfl⟩, B.grow (But.new hl), But.refl⟩ (fun i σ H1 _ h => SqL.of (h.2.2 _ _ upd_same hld)) ?_ ?_⟩
    · rintro i x σ H1 hx ⟨⟨y, rfl⟩, ⟨⟨dx, ob⟩, dc⟩, bt⟩
      rw [List.getElem?_map] at hx
      obtain ⟨n, hn, rfl⟩ := Option.map_eq_some_iff.mp hx
      have npd : p ≠ d := ne_of ob dc (by intro z; cases z)
      refine ⟨_, rfl, p, C, dx, _, _, rfl, ob, T.cl, T.nI, bl_in _ _, d, rfl, .inl ⟨_, .inl dc⟩, _, rfl, _, Sum.inl n, dc, rfl, fun v hv => ?_, fun hv => ?_⟩
      · refine ⟨⟨_, rfl⟩, ⟨⟨dx, by rw [upd_ne npd]; exact ob⟩, ?_⟩, bt.trans (But.at rfl)⟩
        rw [upd_same, kv_drop, outAll_take ks ls hn]
      · refine ⟨⟨_, rfl⟩, ⟨⟨dx, ob⟩, ?_⟩, bt⟩
        rw [kv_val] at hv
        have nm : n ∉ outAll ks (ls.take i) := fun h => by rw [if_pos h] at hv; cases hv
        have e2 : outof (outAll ks (ls.take i)) n = outAll ks (ls.take i) := List.filter_eq_self.mpr fun m hm => by
          simp only [decide_eq_true_eq]
          exact fun q => nm (q ▸ hm)
        rw [outAll_take ks ls hn, e2]
        exact dc
    · rintro σ H1 ⟨⟨y, rfl⟩, B1, bt⟩
      have e1 : ls.take (ls.map V.int).length = ls := by rw [List.length_map]; exact List.take_length
      rw [e1] at B1
      exact ⟨_, rfl, k H1 B1 ((But.new hl).trans bt)⟩
/-! a new bag -/
structure MkB (P : Program) (w : World) (K : PySem.W.Frag) (mg : Str → Option Value) (base : Heap) (C : Addr) : Prop where
  ex : ∃ (f : Addr) (fd : FuncData) (ds : List Value), Mk K C f ∧ FnOk P w K mg base CX0 3 f fd ["self", "values", "shared"] (spInit K C) ∧ Vals [.bl false] ds ∧ Binds K fd ["self", "values", "shared"] ds
/-- a new bag's promise: at x, its dict at d, holding ks -/
def RetB (C : Addr) (sh : Bool) (ks : List Int) (H : Hp) (Q : VK) : Prop := ∀ (x d : Addr) (H' : Hp), H x = none → H d = none → BagAt C H' x d sh ks → But (fun _ => False) H H' → Q (.ref x) H'
theorem make_bag {H : Hp} {Q : VK} {E : XK} {l : Addr} {ns : List Int} {sh : Bool} (hl : SqL K H l (ns.map V.int)) (fit : ∀ n ∈ ns, Fits n) (few : ns.length ≤ 1000) (k : RetB C sh (insAll [] ns) H Q) (x dx : Addr) (hx : H x = none) (hdx : H dx = none) (ne : dx ≠ x) :
    spInit K C (.ref x :: ([.ref l] ++ [.bl sh])) (upd (upd H dx (.own x)) x (.ins C dx [])) (fun v H2 => v = .non ∧ Q (.ref x) H2) E := by
  have g : But (fun _ => False) H (upd (upd H dx (.own x)) x (.ins C dx [])) := But.fresh (But.new hdx) hx
  refine ⟨x, dx, l, ns, sh, rfl, upd_same, ?_, fit, few, fun d H' hd B bt => ⟨rfl, k x d H' hx (g.free hd) B ?_⟩⟩
  · rcases hl with (h | ⟨o, h⟩) | h
    · exact .inl (.inl (g _ _ h id))
    · exact .inl (.inr ⟨o, g _ _ h id⟩)
    · exact .inr h
  · intro b o hb _
    exact bt b o (g b o hb id) (ne_of_none hb hx)
/-! | -/
def spOr (C : Addr) : Sp := fun vs H Q _ => ∃ (p d q e : Addr) (sh sg : Bool) (ks ls : List Int), vs = [.ref p, .ref q] ∧ BagAt C H p d sh ks ∧ BagAt C H q e sg ls ∧ ks.length ≤ 400 ∧ ls.length ≤ 400 ∧ (∀ n ∈ ks, Fits n) ∧ (∀ n ∈ ls, Fits n) ∧
  RetB C false (insAll [] (ks ++ ls)) H Q
theorem scOr : FnScope ["self", "other"] ["self", "other"] (defScope sOr) := ⟨rfl, rfl, rfl, by decide +kernel, rfl, by decide +kernel, by decide +kernel⟩
theorem RetB.back {sh : Bool} {ks : List Int} {H H1 : Hp} {Q : VK} (g : But (fun _ => False) H H1) (k : RetB C sh ks H Q) : RetB C sh ks H1 Q := fun x d H' hx hd B bt => k x d H' (g.free hx) (g.free hd) B (g.trans bt)
theorem ok_or {f : Addr} {fd : FuncData} (F : Fun K "__or__" "Bag.__or__" sOr f fd) (T : Txt K mg C) (M : MkB P w K mg base C) : FnOk P w K mg base CX0 5 f fd ["self", "other"] (spOr C) := by
  refine F.ok scOr (fun vs H Q E h => ?_) (fun cdv A outer s H vs Q E hr h => ?_)
  · obtain ⟨p, d, q, e, sh, sg, ks, ls, rfl, _⟩ := h
    rfl
  · obtain ⟨p, d, q, e, sh, sg, ks, ls, rfl, ⟨⟨dx, ob⟩, dc⟩, ⟨⟨dy, ob'⟩, dc'⟩, few, few', fit, fit', k⟩ := h
    obtain ⟨g, gd, ds, MM, G, vd, bG⟩ := M.ex
    refine ⟨_, pss_one (ps_ret (pe_make MM G hr rfl T.mgC bG vd pass0 (pa_cons (pe_op op_cat (pe_callTy (call_list_dK rfl) (by rfl) T.list boot_list (pa_cons (pe_fld (pv 0) rfl) pa_nil)) (pe_callTy (call_list_dK rfl) (by rfl) T.list boot_list (pa_cons (pe_fld (pv 1) rfl) pa_nil))) pa_nil))), ?_⟩
    refine ⟨_, rfl, p, C, dx, _, _, rfl, ob, T.cl, T.nI, bl_in _ _, d, kv ks, rfl, dc, fun l hl => ?_⟩
    have g1 : But (fun _ => False) H (upd H l (.lst ((kv ks).map fun kv => kV kv.1))) := But.new hl
    refine ⟨_, rfl, q, C, dy, _, _, rfl, g1 _ _ ob' id, T.cl, T.nI, bl_in _ _, e, kv ls, rfl, g1 _ _ dc' id, fun m hm => ?_⟩
    have nlm : l ≠ m := ne_of_none upd_same hm
    have g2 := g1.trans (But.new (o := .lst ((kv ls).map fun kv => kV kv.1)) hm)
    rw [kv_keys, kv_keys] at *
    refine ⟨l, m, _, _, rfl, rfl, by rw [upd_ne nlm]; exact upd_same, upd_same, by simp only [List.length_map]; exact szle (by omega), fun r hr' => ?_⟩
    have g3 := g2.trans (But.new (o := .lst (ks.map V.int ++ ls.map V.int)) hr')
    refine make_bag (ns := ks ++ ls) (by rw [List.map_append]; exact SqL.of upd_same) (fun n hn => (List.mem_append.mp hn).elim (fit n) (fit' n)) (by rw [List.length_append]; omega) (RetB.back g3 k)
/-! - -/
def spSub (C : Addr) : Sp := fun vs H Q _ => ∃ (p d q e : Addr) (sh sg : Bool) (ks ls : List Int), vs = [.ref p, .ref q] ∧ BagAt C H p d sh ks ∧ BagAt C H q e sg ls ∧ ks.length ≤ 400 ∧ (∀ n ∈ ks, Fits n) ∧
  RetB C false (insAll [] (ks.filter fun n => decide (n ∉ ls))) H Q
abbrev NSub : List Str := ["self", "other", "value"]
theorem scSub : FnScope NSub ["self", "other"] (defScope sSub) := ⟨rfl, rfl, rfl, by decide +kernel, rfl, by decide +kernel, by decide +kernel⟩
theorem filter_take {α : Type} (f : α → Bool) (l : List α) {i : Nat} {x : α} (h : l[i]? = some x) : (l.take (i + 1)).filter f = (l.take i).filter f ++ if f x then [x] else [] := by
  rw [List.take_add_one, h, List.filter_append]
  congr 1
  show List.filter f [x] = _
  cases e : f x <;> simp [e]
theorem ok_sub {f : Addr} {fd : FuncData} (F : Fun K "__sub__" "Bag.__sub__" sSub f fd) (T : Txt K mg C) (M : MkB P w K mg base C) : FnOk P w K mg base CX0 5 f fd ["self", "other"] (spSub C) := by
  refine F.ok scSub (fun vs H Q E h => ?_) (fun cdv A outer s H vs Q E hr h => ?_)
  · obtain ⟨p, d, q, e, sh, sg, ks, ls, rfl, _⟩ := h
    rfl
  · obtain ⟨p, d, q, e, sh, sg, ks, ls, rfl, ⟨⟨dx, ob⟩, dc⟩, ⟨⟨dy, ob'⟩, dc'⟩, few, fit, k⟩ := h
    have hu := hu_of hr
    obtain ⟨g, gd, ds, MM, G, vd, bG⟩ := M.ex
    refine ⟨_, pss_one (ps_ret (pe_make MM G hr rfl T.mgC bG vd pass0 (pa_cons (pe_lock (pe_lc (own := [("value", 2)]) (g := gName 2) (tt := tB (tDNotIn (tVar 2) (tFld K (tVar 1) "inside"))) rfl scSub.nd (pi_keys (pe_fld (pv 0) rfl)) (blkOk_by (own := [("value", 2)]) (N := NSub) (sc := defScope sSub) (by decide +kernel))
      (fun _ _ _ _ _ => pg_name (i := 2) scSub.nd rfl (.inl rfl)) (fun _ _ _ _ _ => pts_one (pt_cmp (pc_dnotin hu (pv 2) (pe_fld (pv 1) rfl)))) (fun _ _ _ _ _ => pv 2))) pa_nil))), ?_⟩
    have npd : p ≠ d := ne_of ob dc (by intro z; cases z)
    have nqd : q ≠ d := ne_of ob' dc (by intro z; cases z)
    refine ⟨d, _, dc, trivial, fun od => ?_⟩
    refine ⟨_, rfl, p, C, dx, _, _, rfl, (by rw [upd_ne npd]; exact ob), T.cl, T.nI, bl_in _ _, d, od, rfl, .inl ⟨kv ks, upd_same, fun D hD => ?_⟩⟩
    have nDd : D ≠ d := (ne_of_none upd_same hD).symm
    have hD0 : H D = none := by rw [upd_ne nDd] at hD; exact hD
    refine lc_it (walk_keys (kvs := kv ks)) (fun i H1 => H1 d = some (.frz od (.dK (kv ks))) ∧ But (· = d) H H1 ∧ H1 D = some (.lst (((ks.take i).filter fun n => decide (n ∉ ls)).map V.int))) ⟨?_, ?_, upd_same⟩ (fun i H1 _ h => h.1) (fun i x H1 H2 hi h hy => ?_) (fun H1 h => ?_)
    · rw [upd_ne nDd.symm]
      exact upd_same
    · exact (But.at (S := (· = d)) rfl).fresh hD0
    · obtain ⟨rfl, kk, v, hk, rfl⟩ := hy
      obtain ⟨n, hn, rfl⟩ := kv_get hk
      obtain ⟨h1, h2, h3⟩ := h
      have od' : DGet H2 e (kV (Sum.inl n)) (valV (kv ls) (Sum.inl n)) := by
        by_cases ed : e = d
        · have : ks = ls := by
            rw [ed, dc] at dc'
            injection dc' with dc'
            injection dc' with dc'
            have := congrArg (List.map fun kv => kV kv.1) dc'
            rw [kv_keys, kv_keys] at this
            exact map_int_inj this
          subst this
          subst ed
          exact .inl ⟨_, _, .inr ⟨od, h1⟩, rfl, rfl⟩
        · exact DGet.k (h2 _ _ dc' ed)
      refine ⟨rfl, _, rfl, _, rfl, q, C, dy, _, _, rfl, h2 _ _ ob' nqd, T.cl, T.nI, bl_in _ _, e, _, rfl, od', _, rfl, ?_⟩
      rw [kv_val]
      by_cases hm : n ∈ ls
      · rw [if_pos hm]
        refine ⟨h1, h2, ?_⟩
        rw [filter_take _ _ hn]
        simp [hm, h3]
      · rw [if_neg hm]
        refine ⟨_, rfl, _, h3, ?_, ?_, h2.fresh hD0, ?_⟩
        · have := List.length_filter_le (fun n => decide (n ∉ ls)) (ks.take i)
          simp only [List.length_map]
          simp only [List.length_take] at this
          exact szl (by omega)
        · rw [upd_ne nDd.symm]
          exact h1
        · rw [upd_same, filter_take _ _ hn]
          simp [hm, kV]
    · obtain ⟨h1, h2, h3⟩ := h
      have e1 : ks.take (kv ks).length = ks := by rw [kv_len]; exact List.take_length
      rw [e1] at h3
      refine ⟨h1, ?_⟩
      have g1 : But (fun _ => False) H (upd H1 d (.dK (kv ks))) := fun b o hb _ => by
        by_cases hbd : b = d
        · subst hbd
          rw [upd_same, ← dc]
          exact hb
        · rw [upd_ne hbd]
          exact h2 b o hb hbd
      have h3' : (upd H1 d (.dK (kv ks))) D = some (.lst ((ks.filter fun n => decide (n ∉ ls)).map V.int)) := by rw [upd_ne nDd]; exact h3
      exact make_bag (SqL.of h3') (fun n hn => fit n (List.mem_filter.mp hn).1) (Nat.le_trans (List.length_filter_le _ _) (by omega)) (RetB.back g1 k)
end
end K10

set_option Elab.async false
set_option linter.all false
set_option maxRecDepth 100000
set_option maxHeartbeats 4000000
namespace K10
open PySem L2 L2.G42
open PyProof.Rows (boot_isinstance boot_int boot_bool boot_list boot_set boot_abs boot_enumerate)
theorem boot_max : bootBuiltins "max" = some (.builtin "max") := by decide +kernel
theorem boot_min : bootBuiltins "min" = some (.builtin "min") := by decide +kernel
theorem boot_any : bootBuiltins "any" = some (.builtin "any") := by decide +kernel
theorem upd_twice (H : Hp) (a : Addr) (o o' : HO) : upd (upd H a o) a o' = upd H a o' := by
  funext b
  by_cases h : b = a
  · subst h; rw [upd_same, upd_same]
  · rw [upd_ne h, upd_ne h, upd_ne h]
abbrev sSource : Stmt := top 11
abbrev sTake : Stmt := top 12
abbrev sValue : Stmt := top 14
abbrev sValues : Stmt := top 15
/-- a source of draws -/
abbrev src (c st n : Int) : HO := .lst [.int c, .int st, .int n]
def SrcAt (H : Hp) (a : Addr) : Prop := ∃ c st n : Int, H a = some (src c st n)
theorem src0 {K : PySem.W.Frag} {H : Hp} {a : Addr} {c st n : Int} (h : H a = some (src c st n)) : SqL K H a [.int c, .int st, .int n] := SqL.of h
section
variable {P : Program} {w : World} {K : PySem.W.Frag} {mg : Str → Option Value} {base : Heap} {C : Addr}
/-! _law_take: a number below many; the source moves on -/
def spTake : Sp := fun vs H Q _ => ∃ (a : Addr) (many : Int), vs = [.ref a, .int many] ∧ 0 < many ∧ many.natAbs.log2 < 9000 ∧ SrcAt H a ∧ ∀ r c st n : Int, 0 ≤ r → r < many → Q (.int r) (upd H a (src c st n))
theorem scTake : FnScope ["_law_source_here", "_law_many", "_law_digit"] ["_law_source_here", "_law_many"] (defScope sTake) := ⟨rfl, rfl, rfl, by decide +kernel, rfl, by decide +kernel, by decide +kernel⟩
theorem ok_take {f : Addr} {fd : FuncData} (F : Fun K "_law_take" "_law_take" sTake f fd) (T : Txt K mg C) : FnOk P w K mg base CX0 1 f fd ["_law_source_here", "_law_many"] spTake := by
  refine F.ok scTake (fun vs H Q E h => ?_) (fun cdv A outer s H vs Q E hr h => ?_)
  · obtain ⟨a, many, rfl, _⟩ := h
    rfl
  · obtain ⟨a, many, rfl, h0, h9, ⟨c, st, n, hs⟩, k⟩ := h
    refine ⟨_, (pss_cons (ps_if (pt_cmpR op_gt (pe_ix ix_list (pv 0) pe_int (fun _ _ => rfl)) pe_int (nomark _))
      (pss_cons (ps_set (i := 2) scTake.nd rfl (.inl rfl) (pe_op op_mod (pe_callTy call_int1 (by rfl) T.int boot_int (pa_cons (pe_ix ix_list (pv 0) pe_int (fun _ _ => rfl)) pa_nil)) (pv 1)))
        (pss_cons (ps_asg (pe_op op_fdivW (pe_ix ix_list (pv 0) pe_int (fun _ _ => rfl)) (pv 1)) (pg_sub (pv 0) pe_int set_list))
        (pss_one (ps_ret (pv 2)))))
      pss_nil)
      (pss_cons (ps_asg (pe_op op_add (pe_ix ix_list (pv 0) pe_int (fun _ _ => rfl)) pe_int) (pg_sub (pv 0) pe_int set_list))
      (pss_cons (ps_asg (pe_op op_mod (pe_callTy call_int1 (by rfl) T.int boot_int (pa_cons (pe_op op_add (pe_op op_mul (pe_ix ix_list (pv 0) pe_int (fun _ _ => rfl)) pe_int) (pe_op op_mul pe_int (pe_ix ix_list (pv 0) pe_int (fun _ _ => rfl)))) pa_nil)) pe_int) (pg_sub (pv 0) pe_int set_list))
      (pss_one (ps_ret (pe_op op_mod (pe_callTy call_int1 (by rfl) T.int boot_int (pa_cons (pe_op op_fdivW (pe_ix ix_list (pv 0) pe_int (fun _ _ => rfl)) pe_int) pa_nil)) (pv 1))))))), ?_⟩
    refine ⟨_, rfl, a, _, _, _, rfl, rfl, src0 hs, rfl, _, _, rfl, rfl, _, rfl, ?_⟩
    refine ite2 (fun h => ?_) (fun h => ?_)
    · refine ⟨_, rfl, a, _, _, _, rfl, rfl, src0 hs, rfl, .inl ⟨_, rfl, _, rfl, _, _, rfl, rfl, h0, ?_⟩⟩
      refine ⟨_, rfl, a, _, _, _, rfl, rfl, src0 hs, rfl, _, rfl, _, _, rfl, rfl, ⟨h0, h9⟩, _, rfl, a, _, _, 0, rfl, rfl, hs, rfl, _, rfl, ?_⟩
      exact k _ _ _ _ (Int.emod_nonneg _ (by omega)) (Int.emod_lt_of_pos _ h0)
    · refine ⟨_, rfl, a, _, _, _, rfl, rfl, src0 hs, rfl, _, _, rfl, rfl, _, rfl, a, _, _, 2, rfl, rfl, hs, rfl, ?_⟩
      have h1 : (upd H a (src c st (n + 1))) a = some (src c st (n + 1)) := upd_same
      refine ⟨_, rfl, a, _, _, _, rfl, rfl, src0 h1, rfl, _, _, rfl, rfl, .inr ⟨by decide, by decide⟩, _, rfl, a, _, _, _, rfl, rfl, src0 h1, rfl, _, _, rfl, rfl, .inl ⟨by decide, by decide⟩, _, _, rfl, rfl, .inl ⟨_, rfl, _, _, rfl, rfl, (by decide : (0 : Int) < 2147483647), _, rfl, a, _, _, 1, rfl, rfl, h1, rfl, ?_⟩⟩
      rw [upd_twice]
      refine ⟨_, rfl, a, _, _, _, rfl, rfl, src0 upd_same, rfl, _, _, rfl, rfl, ⟨by decide, by decide⟩, .inl ⟨_, rfl, _, rfl, _, _, rfl, rfl, h0, ?_⟩⟩
      exact k _ _ _ _ (Int.emod_nonneg _ (by omega)) (Int.emod_lt_of_pos _ h0)
end
end K10

set_option Elab.async false
set_option linter.all false
set_option maxRecDepth 100000
set_option maxHeartbeats 4000000
namespace K10
open PySem L2 L2.G42
open Evl (pss_cut)
open PyProof.Rows (boot_isinstance boot_int boot_bool boot_list boot_set boot_abs boot_enumerate)
theorem SqL.grow {K : PySem.W.Frag} {H H' : Hp} {a : Addr} {xs : List V} (h : SqL K H a xs) (g : But (fun _ => False) H H') : SqL K H' a xs := by
  rcases h with (h | ⟨o, h⟩) | h
  · exact .inl (.inl (g _ _ h id))
  · exact .inl (.inr ⟨o, g _ _ h id⟩)
  · exact .inr h
theorem cut_mem {xs : List V} {lo hi : Option Int} {x : V} (h : x ∈ cutV xs lo hi) : x ∈ xs := List.mem_of_mem_drop (List.mem_of_mem_take h)
section
variable {P : Program} {w : World} {K : PySem.W.Frag} {mg : Str → Option Value} {base : Heap} {C : Addr}
/-! _law_source -/
def spSource (K : PySem.W.Frag) : Sp := fun vs H Q _ => ∃ (a : Addr) (ns : List Int) (z : Int), vs = [.ref a, .int z] ∧ 0 ≤ z ∧ SqL K H a (ns.map V.int) ∧ ∀ (p : Addr) (H' : Hp), H p = none → SrcAt H' p → But (fun _ => False) H H' → Q (.ref p) H'
theorem scSource : FnScope ["_law_script", "_law_at", "_law_cell", "_law_state", "_law_k", "_law_each"] ["_law_script", "_law_at"] (defScope sSource) := ⟨rfl, rfl, rfl, by decide +kernel, rfl, by decide +kernel, by decide +kernel⟩
theorem ok_source {f : Addr} {fd : FuncData} (F : Fun K "_law_source" "_law_source" sSource f fd) (T : Txt K mg C) : FnOk P w K mg base CX0 1 f fd ["_law_script", "_law_at"] (spSource K) := by
  refine F.ok scSource (fun vs H Q E h => ?_) (fun cdv A outer s H vs Q E hr h => ?_)
  · obtain ⟨a, ns, i, rfl, _⟩ := h
    rfl
  · obtain ⟨a, ns, z, rfl, hz, ha, k⟩ := h
    obtain ⟨i, rfl⟩ := Int.eq_ofNat_of_zero_le hz
    refine ⟨_, (pss_cut (ps_set (i := 2) scSource.nd rfl (.inl rfl) (pe_ifExp (pt_cmpR op_lt (pv 1) (pe_callB call_len_seq (by rfl) T.len PySem.boot_len (pa_cons (pv 0) pa_nil)) (nomark _)) (pe_callB call_abs (by rfl) T.abs boot_abs (pa_cons (pe_ix ix_list (pv 0) (pv 1) (fun _ _ => rfl)) pa_nil)) pe_int))
      (pss_cons (ps_set (i := 3) scSource.nd rfl (.inl rfl) (pe_op op_add pe_int (pe_op op_mul pe_int (pv 1))))
      (pss_cons (ps_for PassesOwn.never rfl (pi_enum (by rfl) T.enumerate (pa_cons (pe_slice sl_list (pv 0) po_none (po_some pe_int)) pa_nil)) (pg_tup rfl (pgs_cons (pg_name (i := 4) scSource.nd rfl (.inl rfl)) (pgs_cons (pg_name (i := 5) scSource.nd rfl (.inl rfl)) pgs_nil)))
      (pss_one (ps_set (i := 3) scSource.nd rfl (.inl rfl) (pe_op op_mod (pe_callTy call_int1 (by rfl) T.int boot_int (pa_cons (pe_op op_add (pe_op op_add (pe_op op_mul (pv 3) pe_int) (pe_op op_mod (pe_callTy call_int1 (by rfl) T.int boot_int (pa_cons (pv 5) pa_nil)) pe_int)) (pe_op op_mul pe_int (pv 4))) pa_nil)) pe_int))))
      (pss_one (ps_ret (pe_lst (pa_cons (pe_ifExp (pt_cmpR op_ge (pv 2) (pe_op op_pow pe_int pe_int) (nomark _)) (pv 2) pe_int) (pa_cons (pv 3) (pa_cons pe_int pa_nil))))))))), ?_⟩
    refine ⟨fun σ H1 => H1 = H ∧ ∃ cell : Int, σ = [some (.ref a), some (.int i), some (.int cell), none, none, none], ?_, ?_⟩
    · refine ⟨_, rfl, _, rfl, a, _, rfl, .inl ha, _, _, rfl, rfl, _, rfl, ite2 (fun h => ?_) (fun h => ?_)⟩
      · have h' : (i : Int) < ((ns.map V.int).length : Int) := by simpa using h
        have hi : i < ns.length := by
          rw [List.length_map] at h'
          omega
        have hg : (ns.map V.int)[i]? = some (V.int ns[i]) := by rw [List.getElem?_map, List.getElem?_eq_getElem hi]; rfl
        exact ⟨_, rfl, _, rfl, a, _, _, _, rfl, rfl, ha, atI_nat hg, _, rfl, rfl, _, rfl⟩
      · exact ⟨rfl, 0, rfl⟩
    · rintro σ H1 ⟨rfl, cell, rfl⟩
      refine ⟨_, rfl, _, _, rfl, rfl, .inl ⟨by decide, by decide⟩, _, _, rfl, rfl, ?_⟩
      refine ⟨_, rfl, _, rfl, a, _, rfl, ha, fun q hq => ?_⟩
      refine ⟨q, _, rfl, SqL.of upd_same, for_it (walk_enum (xs := cutV (ns.map V.int) none (some 63))) (fun _ σ H2 => (∃ (st : Int) (x y : Option V), σ = [some (.ref a), some (.int i), some (.int cell), some (.int st), x, y]) ∧ H2 q = some (.lst (cutV (ns.map V.int) none (some 63))) ∧ But (fun _ => False) H1 H2)
        ⟨⟨_, _, _, rfl⟩, upd_same, But.new hq⟩ (fun _ _ _ _ h => SqL.of h.2.1) ?_ ?_⟩
      · rintro j x σ H2 H3 hj ⟨⟨st, y, z, rfl⟩, h2, g2⟩ ⟨t, u, v, rfl, ht, rfl, hu, hv⟩
        injection hu with hu
        subst hu
        have hm : v ∈ ns.map V.int := cut_mem (List.mem_of_getElem? hv)
        obtain ⟨m, _, rfl⟩ := List.mem_map.mp hm
        have ntq : t ≠ q := (ne_of_none h2 ht).symm
        refine ⟨t, _, rfl, .inl (.inl upd_same), rfl, _, _, rfl, _, _, rfl, rfl, ?_⟩
        refine ⟨_, rfl, _, _, rfl, rfl, .inr ⟨by decide, by decide⟩, _, rfl, .inl ⟨_, rfl, _, _, rfl, rfl, (by decide : (0 : Int) < 998244353), _, _, rfl, rfl, _, rfl, _, _, rfl, rfl, .inl ⟨by decide, by decide⟩, _, _, rfl, rfl, .inl ⟨_, rfl, _, _, rfl, rfl, (by decide : (0 : Int) < 2147483647), ?_⟩⟩⟩
        exact ⟨⟨_, _, _, rfl⟩, by rw [upd_ne ntq.symm]; exact h2, g2.trans (But.new ht)⟩
      · rintro σ H2 ⟨⟨st, y, z, rfl⟩, h2, g2⟩
        refine ⟨_, rfl, _, _, rfl, rfl, ⟨by decide, by decide, by decide⟩, _, _, rfl, rfl, _, rfl, ite2 (fun h => ?_) (fun h => ?_)⟩
        · exact ⟨_, rfl, _, rfl, szle (by simp), fun p hp => k p _ (g2.free hp) ⟨_, _, _, upd_same⟩ (g2.trans (But.new hp))⟩
        · exact ⟨_, rfl, szle (by simp), fun p hp => k p _ (g2.free hp) ⟨_, _, _, upd_same⟩ (g2.trans (But.new hp))⟩
/-! _law_value -/
def spValue : Sp := fun vs H Q _ => ∃ a : Addr, vs = [.ref a] ∧ SrcAt H a ∧ ∀ v c st n : Int, Fits v → Q (.int v) (upd H a (src c st n))
theorem scValue : FnScope ["_law_source_here", "_law_kind"] ["_law_source_here"] (defScope sValue) := ⟨rfl, rfl, rfl, by decide +kernel, rfl, by decide +kernel, by decide +kernel⟩
theorem ok_value {f : Addr} {fd : FuncData} (F : Fun K "_law_value" "_law_value" sValue f fd) (cTake : Cl P w K mg base 1 "_law_take" spTake []) : FnOk P w K mg base CX0 2 f fd ["_law_source_here"] spValue := by
  refine F.ok scValue (fun vs H Q E h => ?_) (fun cdv A outer s H vs Q E hr h => ?_)
  · obtain ⟨a, rfl, _⟩ := h
    rfl
  · obtain ⟨a, rfl, S, k⟩ := h
    refine ⟨_, (pss_cons (ps_set (i := 1) scValue.nd rfl (.inl rfl) (pe_c cTake hr (by decide) rfl (pa_cons (pv 0) (pa_cons pe_int pa_nil))))
      (pss_cons (ps_if (pt_cmpR op_lt (pv 1) pe_int (nomark _))
      (pss_one (ps_ret (pe_op op_sub (pe_c cTake hr (by decide) rfl (pa_cons (pv 0) (pa_cons pe_int pa_nil))) pe_int)))
      pss_nil)
      (pss_cons (ps_if (pt_cmpR op_eq (pv 1) pe_int (nomark _))
      (pss_one (ps_ret (pe_op op_sub (pe_op op_pow pe_int pe_int) (pe_op op_mul (pe_op op_mul pe_int (pe_op op_pow pe_int pe_int)) (pe_c cTake hr (by decide) rfl (pa_cons (pv 0) (pa_cons pe_int pa_nil)))))))
      pss_nil)
      (pss_cons (ps_if (pt_cmpR op_eq (pv 1) pe_int (nomark _))
      (pss_one (ps_ret (pe_op op_add (pe_op op_mul (pe_c cTake hr (by decide) rfl (pa_cons (pv 0) (pa_cons (pe_op op_pow pe_int pe_int) pa_nil))) (pe_op op_pow pe_int pe_int)) (pe_c cTake hr (by decide) rfl (pa_cons (pv 0) (pa_cons (pe_op op_pow pe_int pe_int) pa_nil))))))
      pss_nil)
      (pss_one (ps_ret (pe_op op_sub (pe_c cTake hr (by decide) rfl (pa_cons (pv 0) (pa_cons (pe_op op_add (pe_op op_mul pe_int (pe_op op_pow pe_int pe_int)) pe_int) pa_nil))) (pe_op op_pow pe_int pe_int)))))))), ?_⟩
    have up : ∀ c st n : Int, SrcAt (upd H a (src c st n)) a := fun c st n => ⟨c, st, n, upd_same⟩
    refine ⟨_, rfl, a, 6, rfl, by decide, by decide, S, fun kind c st n k0 k1 => ?_⟩
    refine ⟨_, rfl, _, _, rfl, rfl, _, rfl, ite2 (fun h => ?_) (fun h => ?_)⟩
    · refine ⟨_, rfl, a, 5, rfl, by decide, by decide, up _ _ _, fun r c st n r0 r1 => ?_⟩
      rw [upd_twice]
      refine ⟨_, _, rfl, rfl, k _ _ _ _ ⟨by omega, by omega⟩⟩
    refine ⟨_, rfl, rfl, _, rfl, ite2 (fun h => ?_) (fun h => ?_)⟩
    · refine ⟨_, _, rfl, rfl, ⟨by decide, by decide, by decide⟩, _, _, rfl, rfl, ⟨by decide, by decide, by decide⟩, _, _, rfl, rfl, .inl ⟨by decide, by decide⟩, _, rfl, a, 2, rfl, by decide, by decide, up _ _ _, fun r c st n r0 r1 => ?_⟩
      rw [upd_twice]
      refine ⟨_, _, rfl, rfl, .inr ⟨by omega, by omega⟩, _, _, rfl, rfl, k _ _ _ _ ?_⟩
      have e : (10 : Int) ^ (30 : Int).toNat = 10 ^ 30 := rfl
      rw [e]
      have : r = 0 ∨ r = 1 := by omega
      rcases this with rfl | rfl
      · exact ⟨by decide, by decide⟩
      · exact ⟨by decide, by decide⟩
    refine ⟨_, rfl, rfl, _, rfl, ite2 (fun h => ?_) (fun h => ?_)⟩
    · refine ⟨_, rfl, _, _, rfl, rfl, ⟨by decide, by decide, by decide⟩, a, 1000000, rfl, by decide, by decide, up _ _ _, fun r c st n r0 r1 => ?_⟩
      rw [upd_twice]
      refine ⟨_, _, rfl, rfl, ⟨by decide, by decide, by decide⟩, _, _, rfl, rfl, .inl ⟨by omega, by omega⟩, _, rfl, _, _, rfl, rfl, ⟨by decide, by decide, by decide⟩, a, 1000000, rfl, by decide, by decide, up _ _ _, fun r' c st n r0' r1' => ?_⟩
      rw [upd_twice]
      refine ⟨_, _, rfl, rfl, k _ _ _ _ ?_⟩
      have e : (10 : Int) ^ (24 : Int).toNat = 1000000000000000000000000 := rfl
      rw [e]
      exact ⟨by omega, by omega⟩
    · refine ⟨_, rfl, _, _, rfl, rfl, ⟨by decide, by decide, by decide⟩, _, _, rfl, rfl, .inl ⟨by decide, by decide⟩, _, _, rfl, rfl, a, 2000000000000000000000000000001, rfl, by decide, by decide +kernel, up _ _ _, fun r c st n r0 r1 => ?_⟩
      rw [upd_twice]
      refine ⟨_, _, rfl, rfl, ⟨by decide, by decide, by decide⟩, _, _, rfl, rfl, k _ _ _ _ ?_⟩
      have e : (10 : Int) ^ (30 : Int).toNat = 1000000000000000000000000000000 := rfl
      rw [e]
      exact ⟨by omega, by omega⟩
end
end K10

set_option Elab.async false
set_option linter.all false
set_option maxRecDepth 100000
set_option maxHeartbeats 4000000
namespace K10
open PySem L2 L2.G42
open Evl (pss_cut)
open PyProof.Rows (boot_isinstance boot_int boot_bool boot_list boot_set boot_abs boot_enumerate)
abbrev sDue : Stmt := top 16
abbrev sAll : Stmt := top 17
theorem cut_to {xs : List V} {k : Nat} : cutV xs none (some (k : Int)) = xs.take k := by
  unfold cutV HT.sIx
  simp
  rw [if_neg (by omega)]
  omega
theorem take_map (ns : List Int) (k : Nat) : (ns.map V.int).take k = (ns.take k).map V.int := (List.map_take).symm
theorem SrcAt.but {H H' : Hp} {a : Addr} (h : SrcAt H a) (g : But (fun _ => False) H H') : SrcAt H' a := let ⟨c, st, n, e⟩ := h; ⟨c, st, n, g _ _ e id⟩
section
variable {P : Program} {w : World} {K : PySem.W.Frag} {mg : Str → Option Value} {base : Heap} {C : Addr}
/-! _law_values -/
def spValues : Sp := fun vs H Q _ => ∃ (a : Addr) (most : Nat), vs = [.ref a, .int most] ∧ most ≤ 100 ∧ SrcAt H a ∧
  ∀ (p : Addr) (ns : List Int) (H' : Hp), H p = none → H' p = some (.lst (ns.map V.int)) → ns.length ≤ most + 1 → (∀ n ∈ ns, Fits n) → SrcAt H' a → But (· = a) H H' → Q (.ref p) H'
abbrev NValues : List Str := ["_law_source_here", "_law_most", "_law_found", "_law_turn"]
theorem scValues : FnScope NValues ["_law_source_here", "_law_most"] (defScope sValues) := ⟨rfl, rfl, rfl, by decide +kernel, rfl, by decide +kernel, by decide +kernel⟩
theorem ok_values {f : Addr} {fd : FuncData} (F : Fun K "_law_values" "_law_values" sValues f fd) (T : Txt K mg C) (cTake : Cl P w K mg base 1 "_law_take" spTake []) (cValue : Cl P w K mg base 2 "_law_value" spValue []) :
    FnOk P w K mg base CX0 3 f fd ["_law_source_here", "_law_most"] spValues := by
  refine F.ok scValues (fun vs H Q E h => ?_) (fun cdv A outer s H vs Q E hr h => ?_)
  · obtain ⟨a, most, rfl, _⟩ := h
    rfl
  · obtain ⟨a, most, rfl, hm, S, k⟩ := h
    refine ⟨_, (pss_cons (ps_setLc (i := 2) (own := [("_law_turn", 3)]) (g := gName 3) (tt := tYes) rfl scValues.nd rfl rfl (sw_true rfl rfl rfl (by decide +kernel)) (pi_range1 (by rfl) T.range (pa_cons (pe_c cTake hr (by decide) rfl (pa_cons (pv 0) (pa_cons (pe_op op_add (pv 1) pe_int) pa_nil))) pa_nil)) (blkOk_by (own := [("_law_turn", 3)]) (N := NValues) (sc := defScope sValues) (by decide +kernel))
        (fun _ _ _ _ _ => (pg_name (i := 3) scValues.nd rfl (.inl rfl))) (fun _ _ _ _ _ => pts_nil) (fun _ _ _ _ _ => (pe_c cValue hr (by decide) rfl (pa_cons (pv 0) pa_nil))))
      (pss_one (ps_ret (pe_op op_cat (pv 2) (pe_slice sl_list (pv 2) po_none (po_some (pe_c cTake hr (by decide) rfl (pa_cons (pv 0) (pa_cons pe_int pa_nil))))))))), ?_⟩
    refine ⟨_, rfl, _, rfl, _, _, rfl, rfl, a, most + 1, rfl, by omega, ?_, S, fun r c st n r0 r1 => ?_⟩
    · refine Nat.lt_of_le_of_lt (m := 7) ?_ (by decide)
      rw [show ((most : Int) + 1).natAbs = most + 1 by omega]
      rcases Nat.eq_zero_or_pos (most + 1) with h | h
      · omega
      · exact Nat.le_of_lt_succ ((Nat.log2_lt (by omega)).mpr (by omega))
    · obtain ⟨m, rfl⟩ := Int.eq_ofNat_of_zero_le r0
      refine ⟨_, rfl, by omega, by omega, fun D hD => ?_⟩
      have hDa : D ≠ a := (ne_of_none upd_same hD).symm
      have hD0 : H D = none := by rw [upd_ne hDa] at hD; exact hD
      refine lc_range (lo := 0) (n := (m : Int).toNat) (fun i H1 => ∃ ns : List Int, H1 D = some (.lst (ns.map V.int)) ∧ ns.length = i ∧ (∀ n ∈ ns, Fits n) ∧ SrcAt H1 a ∧ But (· = a) H H1) ⟨[], upd_same, rfl, by simp, ⟨_, _, _, by rw [upd_ne hDa.symm]; exact upd_same⟩, (But.at (S := (· = a)) rfl).fresh hD0⟩ (fun i H1 hi h => ?_) (fun H1 h => ?_)
      · obtain ⟨ns, h1, h2, h3, h4, h5⟩ := h
        refine ⟨rfl, ?_⟩
        refine ⟨_, rfl, a, rfl, h4, fun v c st n hv => ⟨ns.map V.int, ?_, ?_, ns ++ [v], ?_, ?_, ?_, ?_, ?_⟩⟩
        · rw [upd_ne hDa]; exact h1
        · rw [List.length_map]; exact szl (by omega)
        · rw [upd_same, List.map_append]; rfl
        · rw [List.length_append, h2]; rfl
        · intro x hx
          rcases List.mem_append.mp hx with hx | hx
          · exact h3 x hx
          · rw [List.mem_singleton.mp hx]; exact hv
        · exact ⟨c, st, n, by rw [upd_ne hDa.symm]; exact upd_same⟩
        · exact (h5.trans (But.at rfl)).fresh hD0
      · obtain ⟨ns, h1, h2, h3, h4, h5⟩ := h
        have h2' : ns.length = m := by rw [h2]; simp
        refine ⟨_, rfl, _, rfl, _, rfl, a, 2, rfl, by decide, by decide, h4, fun r c st n r0 r1 => ?_⟩
        obtain ⟨j, rfl⟩ := Int.eq_ofNat_of_zero_le r0
        have h1' : (upd H1 a (src c st n)) D = some (.lst (ns.map V.int)) := by rw [upd_ne hDa]; exact h1
        refine ⟨_, rfl, D, _, rfl, SqL.of h1', fun q hq => ?_⟩
        have hqD : q ≠ D := (ne_of_none h1' hq).symm
        have hqa : q ≠ a := (ne_of_none upd_same hq).symm
        rw [cut_to, take_map]
        refine ⟨D, q, _, _, rfl, rfl, by rw [upd_ne hqD.symm]; exact h1', upd_same, ?_, fun p hp => ?_⟩
        · simp only [List.length_map, List.length_take]; exact szle (by omega)
        · have g : But (· = a) H (upd (upd H1 a (src c st n)) q (.lst ((ns.take j).map V.int))) := (h5.trans (But.at rfl)).trans (But.new hq)
          have hpa : p ≠ a := fun e => by
            subst e
            rw [upd_ne hqa.symm, upd_same] at hp
            cases hp
          have hp0 : H p = none := by
            cases e : H p with
            | none => rfl
            | some o => rw [g p o e hpa] at hp; cases hp
          rw [← List.map_append]
          refine k p (ns ++ ns.take j) _ hp0 upd_same ?_ ?_ ?_ (g.trans (But.new hp))
          · simp only [List.length_append, List.length_take]; omega
          · intro x hx
            rcases List.mem_append.mp hx with hx | hx
            · exact h3 x hx
            · exact h3 x (List.mem_of_mem_take hx)
          · exact ⟨c, st, n, by rw [upd_ne hpa.symm, upd_ne hqa.symm]; exact upd_same⟩
/-! sorted(set(..)) -/
theorem set_sorted {H : Hp} {Q : VK} {l : Addr} {ns xs : List Int} (hl : SqL K H l (ns.map V.int)) (few : ns.length < 64) (hx : xs.Pairwise (· < ·)) (hm : ∀ x, x ∈ xs ↔ x ∈ ns)
    (k : ∀ (q : Addr) (H' : Hp), H q = none → H' q = some (.lst (xs.map V.int)) → But (fun _ => False) H H' → Q (.ref q) H') :
    rSetL K w [.ref l] H fun v H1 => rSortedSet w [v] H1 Q := by
  refine ⟨l, ns, rfl, hl, by omega, fun p c hp hc => ⟨p, _, c, rfl, upd_same, by omega, fun ys q hy hz _ hq => ?_⟩⟩
  have e : ys = xs := rise_one hy hx fun x => by rw [hz, hm]; simp
  subst e
  have hq0 : H q = none := But.free (But.new hp) hq
  exact k q _ hq0 upd_same ((But.new hp).trans (But.new hq))
/-! _law_due -/
def spDue (K : PySem.W.Frag) : Sp := fun vs H Q _ => ∃ (l r : Addr) (xs ys zs : List Int) (b : Bool), vs = [.ref l, .ref r, .bl b] ∧ H l = some (.lst (xs.map V.int)) ∧ H r = some (.lst (ys.map V.int)) ∧ xs.length + ys.length < 64 ∧ xs.Pairwise (· < ·) ∧ zs.Pairwise (· < ·) ∧
  (∀ x, x ∈ zs ↔ if b = true then x ∈ xs ∨ x ∈ ys else x ∈ xs ∧ x ∉ ys) ∧ ∀ (q : Addr) (H' : Hp), H q = none → H' q = some (.lst (zs.map V.int)) → But (fun _ => False) H H' → Q (.ref q) H'
abbrev NDue : List Str := ["_law_left", "_law_right", "_law_is_put", "_law_value_here"]
theorem scDue : FnScope NDue ["_law_left", "_law_right", "_law_is_put"] (defScope sDue) := ⟨rfl, rfl, rfl, by decide +kernel, rfl, by decide +kernel, by decide +kernel⟩
theorem inV_int (n : Int) (ys : List Int) : inV (.int n) (ys.map V.int) = decide (n ∈ ys) := by
  unfold inV
  rw [List.any_map, Bool.eq_iff_iff, List.any_eq_true, decide_eq_true_eq]
  constructor
  · rintro ⟨x, hx, e⟩
    have : x = n := by simpa [eqV] using e
    exact this ▸ hx
  · intro h
    exact ⟨n, h, by simp [eqV]⟩
theorem flat_ints (ys : List Int) : (ys.map V.int).all flatV = true := by
  rw [List.all_map, List.all_eq_true]
  intro x _
  rfl
theorem ok_due {f : Addr} {fd : FuncData} (F : Fun K "_law_due" "_law_due" sDue f fd) (T : Txt K mg C) : FnOk P w K mg base CX0 1 f fd ["_law_left", "_law_right", "_law_is_put"] (spDue K) := by
  refine F.ok scDue (fun vs H Q E h => ?_) (fun cdv A outer s H vs Q E hr h => ?_)
  · obtain ⟨l, r, xs, ys, zs, b, rfl, _⟩ := h
    rfl
  · obtain ⟨l, r, xs, ys, zs, b, rfl, hl, hr', few, hx, hz, hm, k⟩ := h
    refine ⟨_, (pss_cons (ps_if (pt_val (pv 2))
      (pss_one (ps_ret (pe_callB (cr_sortedSet rfl) (by rfl) T.sorted boot_sorted (pa_cons (pe_callTy (cr_setL rfl) (by rfl) T.set boot_set (pa_cons (pe_op op_cat (pv 0) (pv 1)) pa_nil)) pa_nil))))
      pss_nil)
      (pss_one (ps_ret (pe_lc (own := [("_law_value_here", 3)]) (g := gName 3) (tt := tTest (tOp (rIn K true) (tVar 3) (tVar 1))) rfl scDue.nd (pi_list (pv 0)) (blkOk_by (own := [("_law_value_here", 3)]) (N := NDue) (sc := defScope sDue) (by decide +kernel))
        (fun _ _ _ _ _ => (pg_name (i := 3) scDue.nd rfl (.inl rfl))) (fun _ _ _ _ _ => (pts_one (pt_cmpR op_notIn_seq (pv 3) (pv 1) rfl))) (fun _ _ _ _ _ => (pv 3)))))), ?_⟩
    refine ⟨_, rfl, _, rfl, ite2 (fun h => ?_) (fun h => ?_)⟩
    · subst h
      refine ⟨_, rfl, _, rfl, l, r, _, _, rfl, rfl, hl, hr', by simp only [List.length_map]; exact szle (by omega), fun q hq => ?_⟩
      refine set_sorted (ns := xs ++ ys) (xs := zs) (by rw [List.map_append]; exact SqL.of upd_same) (by rw [List.length_append]; omega) hz (fun x => by rw [hm x, if_pos rfl, List.mem_append]) fun p H' hp h1 g => ?_
      exact k p H' (But.free (But.new hq) hp) h1 ((But.new hq).trans g)
    · have hb : b = false := by cases b with
        | true => exact absurd rfl h
        | false => rfl
      subst hb
      refine ⟨_, rfl, l, rfl, ⟨_, SqL.of hl⟩, fun D hD => lc_list (xs := xs.map V.int) (fun i H1 => H1 D = some (.lst (((xs.take i).filter fun n => decide (n ∉ ys)).map V.int)) ∧ But (fun _ => False) H H1) ⟨upd_same, But.new hD⟩ (fun i H1 _ h => SqL.of (h.2 _ _ hl id)) (fun i x H1 hi h => ?_) (fun H1 h => ?_)⟩
      · rw [List.getElem?_map] at hi
        obtain ⟨n, hn, rfl⟩ := Option.map_eq_some_iff.mp hi
        refine ⟨rfl, _, rfl, _, rfl, r, _, rfl, .inl (SqL.of (h.2 _ _ hr' id)), rfl, flat_ints ys, _, rfl, ?_⟩
        show if (!inV (.int n) (ys.map V.int)) = true then _ else _
        rw [inV_int]
        by_cases hy : n ∈ ys
        · rw [decide_eq_true hy]
          refine ⟨?_, h.2⟩
          rw [filter_take _ _ hn]
          simp [hy, h.1]
        · rw [decide_eq_false hy]
          refine ⟨_, rfl, _, h.1, ?_, ?_, h.2.fresh hD⟩
          · have := List.length_filter_le (fun n => decide (n ∉ ys)) (xs.take i)
            simp only [List.length_map]
            simp only [List.length_take] at this
            exact szl (by omega)
          · rw [upd_same, filter_take _ _ hn]
            simp [hy]
      · have e1 : xs.take (xs.map V.int).length = xs := by rw [List.length_map]; exact List.take_length
        rw [e1] at h
        have e2 : xs.filter (fun n => decide (n ∉ ys)) = zs := rise_one (hx.filter _) hz fun x => by
          rw [hm x, if_neg (by decide), List.mem_filter]
          simp
        rw [e2] at h
        exact k D H1 hD h.1 h.2
end
end K10

set_option Elab.async false
set_option linter.all false
set_option maxRecDepth 100000
set_option maxHeartbeats 4000000
namespace K10
open PySem L2 L2.G42
open Evl (pss_cut)
open PyProof.Rows (boot_isinstance boot_int boot_bool boot_list boot_set boot_abs boot_enumerate)
/-! lists of ints, lists of such, compared -/
def dI (xs : List Int) : PyData := .list (xs.map PyData.int)
def dL (xss : List (List Int)) : PyData := .list (xss.map dI)
theorem dpI {K : PySem.W.Frag} {H : Hp} : ∀ xs : List Int, DpAll K H (xs.map V.int) (xs.map PyData.int)
  | [] => .nil
  | x :: xs => .cons (.int x) (dpI xs)
theorem canI : ∀ xs : List Int, PyData.canLayAll0 (xs.map PyData.int) = true
  | [] => by simp [PyData.canLayAll0]
  | x :: xs => by
    rw [List.map_cons, PyData.canLayAll0, canI xs]
    simp [PyData.canLay0]
theorem depI : ∀ xs : List Int, PyData.depthAll (xs.map PyData.int) = 0
  | [] => by simp [PyData.depthAll]
  | x :: xs => by
    rw [List.map_cons, PyData.depthAll, depI xs]
    simp [PyData.depth]
theorem canDI (xs : List Int) : PyData.canLay0 (dI xs) = true := by
  unfold dI
  rw [PyData.canLay0]
  exact canI xs
theorem depDI (xs : List Int) : PyData.depth (dI xs) = 1 := by
  unfold dI
  rw [PyData.depth, depI xs]
theorem canL : ∀ xss : List (List Int), PyData.canLayAll0 (xss.map dI) = true
  | [] => by simp [PyData.canLayAll0]
  | x :: xs => by
    rw [List.map_cons, PyData.canLayAll0, canL xs, canDI]
    rfl
theorem depL : ∀ xss : List (List Int), PyData.depthAll (xss.map dI) ≤ 1
  | [] => by simp [PyData.depthAll]
  | x :: xs => by
    rw [List.map_cons, PyData.depthAll, depDI]
    have := depL xs
    omega
theorem shI (xs : List Int) : SeqAt.shaped (dI xs) = true := by
  unfold SeqAt.shaped
  rw [canDI, depDI]
  rfl
theorem shL (xss : List (List Int)) : SeqAt.shaped (dL xss) = true := by
  have h1 : PyData.canLay0 (dL xss) = true := by
    unfold dL
    rw [PyData.canLay0]
    exact canL xss
  have h2 : PyData.depth (dL xss) ≤ 64 := by
    unfold dL
    rw [PyData.depth]
    have := depL xss
    omega
  unfold SeqAt.shaped
  rw [h1, decide_eq_true h2]
  rfl
/-- two lists of the same ints -/
theorem ne_ints {K : PySem.W.Frag} {H : Hp} {Q : VK} {a b : Addr} {xs : List Int} (ha : SqL K H a (xs.map V.int)) (hb : SqL K H b (xs.map V.int)) (k : Q (.bl false) H) : rNeD K (.ref a) (.ref b) H Q := by
  refine ⟨dI xs, dI xs, .lst ha (dpI xs), .lst hb (dpI xs), shI xs, shI xs, ?_⟩
  rw [SeqAt.eqv_refl _ (canDI xs)]
  exact k
theorem dpL {K : PySem.W.Frag} {H : Hp} : ∀ {ls : List Addr} {xss : List (List Int)}, ls.length = xss.length → (∀ (i : Nat) l xs, ls[i]? = some l → xss[i]? = some xs → H l = some (.lst (xs.map V.int))) → DpAll K H (ls.map V.ref) (xss.map dI)
  | [], [], _, _ => .nil
  | [], _ :: _, h, _ => by cases h
  | _ :: _, [], h, _ => by cases h
  | l :: ls, xs :: xss, h, q => .cons (.lst (SqL.of (q 0 l xs rfl rfl)) (dpI xs)) (dpL (by simpa using h) fun i l xs h1 h2 => q (i + 1) l xs (by simpa using h1) (by simpa using h2))
/-- two lists of lists of the same ints -/
theorem ne_lists {K : PySem.W.Frag} {H : Hp} {Q : VK} {a b : Addr} {ls ms : List Addr} {xss : List (List Int)} (ha : H a = some (.lst (ls.map V.ref))) (hb : H b = some (.lst (ms.map V.ref))) (l1 : ls.length = xss.length) (l2 : ms.length = xss.length)
    (h1 : ∀ (i : Nat) l xs, ls[i]? = some l → xss[i]? = some xs → H l = some (.lst (xs.map V.int))) (h2 : ∀ (i : Nat) l xs, ms[i]? = some l → xss[i]? = some xs → H l = some (.lst (xs.map V.int))) (k : Q (.bl false) H) : rNeD K (.ref a) (.ref b) H Q := by
  refine ⟨dL xss, dL xss, .lst (SqL.of ha) (dpL l1 h1), .lst (SqL.of hb) (dpL l2 h2), shL xss, shL xss, ?_⟩
  rw [SeqAt.eqv_refl _ (SeqAt.canLay_of_shaped (shL xss))]
  exact k
/-! a bag with what it must tell -/
structure Bg where
  p : Addr
  d : Addr
  sh : Bool
  ks : List Int
  xs : List Int
structure Bg.Ok (C : Addr) (H : Hp) (b : Bg) : Prop where
  bag : BagAt C H b.p b.d b.sh b.ks
  nd : b.ks.Nodup
  up : b.xs.Pairwise (· < ·)
  same : ∀ x, x ∈ b.ks ↔ x ∈ b.xs
  fit : ∀ n ∈ b.ks, Fits n
/-- a rising list within another one is no longer -/
theorem nd_len : ∀ {l m : List Int}, l.Nodup → (∀ x ∈ l, x ∈ m) → l.length ≤ m.length
  | [], _, _, _ => Nat.zero_le _
  | x :: l, m, nd, h => by
    obtain ⟨n1, n2⟩ := List.nodup_cons.mp nd
    have hx : x ∈ m := h x List.mem_cons_self
    have := nd_len (l := l) (m := m.erase x) n2 fun y hy => (List.mem_erase_of_ne (fun e : y = x => n1 (e ▸ hy))).mpr (h y (List.mem_cons_of_mem _ hy))
    rw [List.length_erase_of_mem hx] at this
    have : 0 < m.length := List.length_pos_of_mem hx
    rw [List.length_cons]
    omega
theorem up_nd {l : List Int} (h : l.Pairwise (· < ·)) : l.Nodup := h.imp fun a => Int.ne_of_lt a
theorem ex_rise (ks : List Int) : ∃ xs : List Int, xs.Pairwise (· < ·) ∧ ∀ x, x ∈ ks ↔ x ∈ xs := by
  induction ks with
  | nil => exact ⟨[], .nil, by simp⟩
  | cons k ks ih =>
    obtain ⟨xs, h1, h2⟩ := ih
    by_cases hk : k ∈ xs
    · refine ⟨xs, h1, fun x => ?_⟩
      rw [List.mem_cons, h2 x]
      exact ⟨fun h => h.elim (fun e => e ▸ hk) id, .inr⟩
    · refine ⟨xs.filter (fun x => decide (x < k)) ++ k :: xs.filter (fun x => decide (k < x)), ?_, fun x => ?_⟩
      · refine List.pairwise_append.mpr ⟨h1.filter _, List.pairwise_cons.mpr ⟨fun y hy => ?_, h1.filter _⟩, fun y hy z hz => ?_⟩
        · simpa using (List.mem_filter.mp hy).2
        · have a : y < k := by simpa using (List.mem_filter.mp hy).2
          rcases List.mem_cons.mp hz with e | e
          · omega
          · have b : k < z := by simpa using (List.mem_filter.mp e).2
            omega
      · rw [List.mem_cons, List.mem_append, List.mem_cons, List.mem_filter, List.mem_filter, h2 x]
        simp only [decide_eq_true_eq]
        constructor
        · rintro (e | e)
          · exact .inr (.inl e)
          · rcases Int.lt_trichotomy x k with l | l | l
            · exact .inl ⟨e, l⟩
            · exact .inr (.inl l)
            · exact .inr (.inr ⟨e, l⟩)
        · rintro (⟨e, _⟩ | e | ⟨e, _⟩)
          · exact .inr e
          · exact .inl e
          · exact .inr e
section
variable {P : Program} {w : World} {K : PySem.W.Frag} {mg : Str → Option Value} {base : Heap} {C : Addr}
theorem Bg.Ok.grow {H H' : Hp} {b : Bg} (h : b.Ok C H) (g : But (fun _ => False) H H') : b.Ok C H' := ⟨h.bag.grow g, h.nd, h.up, h.same, h.fit⟩
theorem Bg.Ok.but {S : Addr → Prop} {H H' : Hp} {b : Bg} (h : b.Ok C H) (g : But S H H') (hp : ¬ S b.p) (hd : ¬ S b.d) : b.Ok C H' := ⟨h.bag.same g hp hd, h.nd, h.up, h.same, h.fit⟩
/-! _law_all_told -/
def spAll (C : Addr) : Sp := fun vs H Q _ => ∃ (B : Addr) (bs : List Bg), vs = [.ref B] ∧ H B = some (.lst (bs.map fun b => V.ref b.p)) ∧ bs.length ≤ 100 ∧ (∀ b ∈ bs, b.Ok C H) ∧
  ∀ (q : Addr) (ls : List Addr) (H' : Hp), H q = none → H' q = some (.lst (ls.map V.ref)) → ls.length = bs.length → (∀ (i : Nat) l b, ls[i]? = some l → bs[i]? = some b → H' l = some (.lst (b.xs.map V.int))) → But (fun _ => False) H H' → Q (.ref q) H'
abbrev NAll : List Str := ["_law_bags", "_law_bag"]
theorem scAll : FnScope NAll ["_law_bags"] (defScope sAll) := ⟨rfl, rfl, rfl, by decide +kernel, rfl, by decide +kernel, by decide +kernel⟩
theorem ok_all {f : Addr} {fd : FuncData} (F : Fun K "_law_all_told" "_law_all_told" sAll f fd) (T : Txt K mg C) (mTold : Mt P w K mg base 1 C "told" (spTold C) []) : FnOk P w K mg base CX0 2 f fd ["_law_bags"] (spAll C) := by
  refine F.ok scAll (fun vs H Q E h => ?_) (fun cdv A outer s H vs Q E hr h => ?_)
  · obtain ⟨B, bs, rfl, _⟩ := h
    rfl
  · obtain ⟨B, bs, rfl, hB, few, ok, k⟩ := h
    refine ⟨_, (pss_one (ps_ret (pe_lc (own := [("_law_bag", 1)]) (g := gName 1) (tt := tYes) rfl scAll.nd (pi_list (pv 0)) (blkOk_by (own := [("_law_bag", 1)]) (N := NAll) (sc := defScope sAll) (by decide +kernel))
      (fun _ _ _ _ _ => (pg_name (i := 1) scAll.nd rfl (.inl rfl))) (fun _ _ _ _ _ => pts_nil) (fun _ _ _ _ _ => (pe_mt0 mTold hr (by decide) (pv 1)))))), ?_⟩
    refine ⟨_, rfl, B, rfl, ⟨_, SqL.of hB⟩, fun D hD => lc_list (xs := bs.map fun b => V.ref b.p) (fun i H1 => ∃ ls : List Addr, H1 D = some (.lst (ls.map V.ref)) ∧ ls.length = i ∧ (∀ l ∈ ls, H1 l ≠ none ∧ l ≠ D) ∧ (∀ (i : Nat) l b, ls[i]? = some l → bs[i]? = some b → H1 l = some (.lst (b.xs.map V.int))) ∧ But (fun _ => False) H H1)
      ⟨[], upd_same, rfl, by simp, by simp, But.new hD⟩ (fun i H1 _ h => let ⟨_, _, _, _, _, g⟩ := h; SqL.of (g _ _ hB id)) (fun i x H1 hi h => ?_) (fun H1 h => ?_)⟩
    · obtain ⟨ls, h1, h2, h3, h4, h5⟩ := h
      rw [List.getElem?_map] at hi
      obtain ⟨b, hb, rfl⟩ := Option.map_eq_some_iff.mp hi
      have hib : i < bs.length := (List.getElem?_eq_some_iff.mp hb).1
      have okb := (ok b (List.mem_of_getElem? hb)).grow h5
      obtain ⟨⟨dx, ob⟩, dc⟩ := okb.bag
      refine ⟨rfl, ?_⟩
      refine ⟨_, rfl, b.p, dx, _, rfl, ob, bl_no _ _ (by decide +kernel) (by decide +kernel), b.p, b.d, b.sh, b.ks, b.xs, rfl, okb.bag, okb.nd, okb.up, okb.same, fun q H2 hq h6 g => ?_⟩
      have hqD : q ≠ D := (ne_of_none h1 hq).symm
      refine ⟨ls.map V.ref, g _ _ h1 id, by rw [List.length_map]; exact szl (by omega), ls ++ [q], ?_, ?_, ?_, ?_, ?_⟩
      · rw [upd_same, List.map_append]; rfl
      · rw [List.length_append, h2]; rfl
      · intro l hl
        rcases List.mem_append.mp hl with hl | hl
        · obtain ⟨a1, a2⟩ := h3 l hl
          refine ⟨?_, a2⟩
          rw [upd_ne a2]
          cases e : H1 l with
          | none => exact absurd e a1
          | some o => rw [g l o e id]; simp
        · rw [List.mem_singleton.mp hl]
          refine ⟨?_, hqD⟩
          rw [upd_ne hqD, h6]
          simp
      · intro j l c hl hc
        by_cases hj : j < ls.length
        · rw [List.getElem?_append_left hj] at hl
          have a2 := (h3 l (List.mem_of_getElem? hl)).2
          rw [upd_ne a2]
          exact g _ _ (h4 j l c hl hc) id
        · have hj' : j = i := by
            have := (List.getElem?_eq_some_iff.mp hl).1
            rw [List.length_append, List.length_singleton] at this
            omega
          subst hj'
          rw [List.getElem?_append_right (by omega)] at hl
          have e0 : j - ls.length = 0 := by omega
          rw [e0] at hl
          have e1 : q = l := by simpa using hl
          subst e1
          rw [hb] at hc
          have e2 : b = c := by simpa using hc
          subst e2
          rw [upd_ne hqD]
          exact h6
      · exact (h5.trans g).fresh hD
    · obtain ⟨ls, h1, h2, h3, h4, h5⟩ := h
      exact k D ls H1 hD h1 (by rw [h2, List.length_map]) h4 h5
end
end K10

set_option Elab.async false
set_option linter.all false
set_option maxRecDepth 100000
set_option maxHeartbeats 4000000
namespace K10
open PySem L2 L2.G42
/-- what stands between two turns: the source at S, the lists due at L (their addresses ls), the bags at B -/
structure St3 (C : Addr) (H0 H : Hp) (S L B : Addr) (ls : List Addr) (bs : List Bg) (U : List Int) : Prop where
  sr : SrcAt H S
  dl : H L = some (.lst (ls.map V.ref))
  bl : H B = some (.lst (bs.map fun b => V.ref b.p))
  len : ls.length = 3
  blen : bs.length = 3
  ok : ∀ b ∈ bs, b.Ok C H
  du : ∀ (i : Nat) l b, ls[i]? = some l → bs[i]? = some b → H l = some (.lst (b.xs.map V.int))
  nS : ∀ l ∈ ls, l ≠ S ∧ l ≠ L
  SL : S ≠ L
  SB : S ≠ B
  LB : L ≠ B
  ap : ∀ (i j : Nat) b c, bs[i]? = some b → bs[j]? = some c → i ≠ j → b.d ≠ c.d ∧ b.p ≠ c.p
  un : ∀ b ∈ bs, ∀ x ∈ b.xs, x ∈ U
  fr : But (fun _ => False) H0 H
  S0 : H0 S = none
  L0 : H0 L = none
  d0 : ∀ b ∈ bs, H0 b.d = none
section
variable {C : Addr} {H0 H H' : Hp} {S L B : Addr} {ls : List Addr} {bs : List Bg} {U : List Int}
theorem St3.grow (t : St3 C H0 H S L B ls bs U) (g : But (fun _ => False) H H') : St3 C H0 H' S L B ls bs U :=
  ⟨t.sr.but g, g _ _ t.dl id, g _ _ t.bl id, t.len, t.blen, fun b hb => (t.ok b hb).grow g, fun i l b h1 h2 => g _ _ (t.du i l b h1 h2) id, t.nS, t.SL, t.SB, t.LB, t.ap, t.un, t.fr.trans g, t.S0, t.L0, t.d0⟩
theorem St3.take (t : St3 C H0 H S L B ls bs U) (c st n : Int) : St3 C H0 (upd H S (src c st n)) S L B ls bs U := by
  obtain ⟨a1, a2, a3, hS⟩ := t.sr
  have kp : ∀ b ∈ bs, ¬ b.p = S := fun b hb e => by
    obtain ⟨⟨dx, ob⟩, dc⟩ := (t.ok b hb).bag
    rw [e, hS] at ob
    cases ob
  have kd : ∀ b ∈ bs, ¬ b.d = S := fun b hb e => by
    obtain ⟨⟨dx, ob⟩, dc⟩ := (t.ok b hb).bag
    rw [e, hS] at dc
    cases dc
  exact ⟨⟨c, st, n, upd_same⟩, by rw [upd_ne t.SL.symm]; exact t.dl, by rw [upd_ne t.SB.symm]; exact t.bl, t.len, t.blen, fun b hb => (t.ok b hb).but (But.at (S := (· = S)) rfl) (kp b hb) (kd b hb),
    fun i l b h1 h2 => by rw [upd_ne (t.nS l (List.mem_of_getElem? h1)).1]; exact t.du i l b h1 h2, t.nS, t.SL, t.SB, t.LB, t.ap, t.un, t.fr.fresh t.S0, t.S0, t.L0, t.d0⟩
theorem St3.bag (t : St3 C H0 H S L B ls bs U) {j : Nat} (hj : j < 3) : ∃ b, bs[j]? = some b ∧ b ∈ bs ∧ b.Ok C H ∧ (bs.map fun b => V.ref b.p)[j]? = some (V.ref b.p) := by
  have h : j < bs.length := by rw [t.blen]; exact hj
  refine ⟨bs[j], List.getElem?_eq_getElem h, List.getElem_mem h, t.ok _ (List.getElem_mem h), ?_⟩
  rw [List.getElem?_map, List.getElem?_eq_getElem h]
  rfl
theorem St3.due (t : St3 C H0 H S L B ls bs U) {j : Nat} {b : Bg} (hb : bs[j]? = some b) : ∃ l, ls[j]? = some l ∧ l ∈ ls ∧ H l = some (.lst (b.xs.map V.int)) ∧ (ls.map V.ref)[j]? = some (V.ref l) := by
  have h : j < ls.length := by
    have := (List.getElem?_eq_some_iff.mp hb).1
    rw [t.blen] at this
    rw [t.len]
    exact this
  refine ⟨ls[j], List.getElem?_eq_getElem h, List.getElem_mem h, t.du j _ b (List.getElem?_eq_getElem h) hb, ?_⟩
  rw [List.getElem?_map, List.getElem?_eq_getElem h]
  rfl
/-- all bags tell what is due -/
theorem St3.ne {K : PySem.W.Frag} {Q : VK} {q : Addr} {ms : List Addr} (t : St3 C H0 H S L B ls bs U) (hq : H q = some (.lst (ms.map V.ref))) (hm : ms.length = bs.length) (h : ∀ (i : Nat) l b, ms[i]? = some l → bs[i]? = some b → H l = some (.lst (b.xs.map V.int))) (k : Q (.bl false) H) :
    rNeD K (.ref q) (.ref L) H Q := by
  refine ne_lists (xss := bs.map (·.xs)) hq t.dl (by rw [hm, List.length_map]) (by rw [List.length_map, t.len, t.blen]) (fun i l xs hl hx => ?_) (fun i l xs hl hx => ?_) k
  · rw [List.getElem?_map] at hx
    obtain ⟨b, hb, rfl⟩ := Option.map_eq_some_iff.mp hx
    exact h i l b hl hb
  · rw [List.getElem?_map] at hx
    obtain ⟨b, hb, rfl⟩ := Option.map_eq_some_iff.mp hx
    exact t.du i l b hl hb
/-- no more members than U has -/
theorem St3.few (t : St3 C H0 H S L B ls bs U) {b : Bg} (hb : b ∈ bs) : b.ks.length ≤ U.length ∧ b.xs.length ≤ U.length :=
  ⟨nd_len (t.ok b hb).nd fun x hx => t.un b hb x (((t.ok b hb).same x).1 hx), nd_len (up_nd (t.ok b hb).up) fun x hx => t.un b hb x hx⟩
/-- the bag j is changed, and its list is due anew -/
theorem St3.change (t : St3 C H0 H S L B ls bs U) {j : Nat} {b : Bg} {q : Addr} {ks zs V' : List Int} (hb : bs[j]? = some b) (nb : BagAt C H' b.p b.d b.sh ks) (g : But (· = b.d) H H') (hq : H q = none) (hq' : H' q = some (.lst (zs.map V.int)))
    (nd : ks.Nodup) (up : zs.Pairwise (· < ·)) (same : ∀ x, x ∈ ks ↔ x ∈ zs) (fit : ∀ n ∈ ks, Fits n) (un : ∀ x ∈ zs, x ∈ V') (hU : ∀ x ∈ U, x ∈ V') :
    St3 C H0 (upd H' L (.lst ((ls.set j q).map V.ref))) S L B (ls.set j q) (bs.set j { b with ks := ks, xs := zs }) V' := by
  have hm : b ∈ bs := List.mem_of_getElem? hb
  have hj : j < bs.length := (List.getElem?_eq_some_iff.mp hb).1
  have hjl : j < ls.length := by rw [t.len, ← t.blen]; exact hj
  obtain ⟨⟨dx, ob⟩, dc⟩ := (t.ok b hm).bag
  have nL : ∀ {x : Addr} {o : HO}, H x = some o → (∀ vs, o ≠ .lst vs) → x ≠ L := fun {x o} h h2 e => by
    rw [e, t.dl] at h
    injection h with h
    exact h2 _ h.symm
  have nd' : ∀ {x : Addr} {vs : List V}, H x = some (.lst vs) → ¬ x = b.d := fun {x vs} h e => by
    rw [e, dc] at h
    cases h
  have hqL : q ≠ L := (ne_of_none t.dl hq).symm
  have hqS : q ≠ S := by
    obtain ⟨a1, a2, a3, hS⟩ := t.sr
    exact (ne_of_none hS hq).symm
  -- the bags that stay
  have stay : ∀ (i : Nat) c, bs[i]? = some c → i ≠ j → c.Ok C (upd H' L (.lst ((ls.set j q).map V.ref))) := fun i c hc hij => by
    obtain ⟨⟨dy, ob'⟩, dc'⟩ := (t.ok c (List.mem_of_getElem? hc)).bag
    have a := t.ap i j c b hc hb hij
    have o := t.ok c (List.mem_of_getElem? hc)
    refine ⟨⟨⟨dy, ?_⟩, ?_⟩, o.nd, o.up, o.same, o.fit⟩
    · rw [upd_ne (nL ob' (fun _ e => by cases e))]
      exact g _ _ ob' fun e => by rw [e, dc] at ob'; cases ob'
    · rw [upd_ne (nL dc' (fun _ e => by cases e))]
      exact g _ _ dc' a.1
  have set_get : ∀ (i : Nat) (c : Bg), (bs.set j { b with ks := ks, xs := zs })[i]? = some c → (i = j ∧ c = { b with ks := ks, xs := zs }) ∨ (i ≠ j ∧ bs[i]? = some c) := fun i c h => by
    rw [List.getElem?_set] at h
    by_cases e : j = i
    · subst e
      rw [if_pos rfl, if_pos hj] at h
      exact .inl ⟨rfl, (Option.some.inj h).symm⟩
    · rw [if_neg e] at h
      exact .inr ⟨fun e' => e e'.symm, h⟩
  have set_mem : ∀ c ∈ bs.set j { b with ks := ks, xs := zs }, (c = { b with ks := ks, xs := zs }) ∨ ∃ i, i ≠ j ∧ bs[i]? = some c := fun c h => by
    obtain ⟨i, hi⟩ := List.getElem?_of_mem h
    rcases set_get i c hi with ⟨_, e⟩ | ⟨e, h'⟩
    · exact .inl e
    · exact .inr ⟨i, e, h'⟩
  obtain ⟨a1, a2, a3, hS⟩ := t.sr
  refine ⟨⟨a1, a2, a3, ?_⟩, upd_same, ?_, by rw [List.length_set]; exact t.len, by rw [List.length_set]; exact t.blen, fun c hc => ?_, fun i l c hl hc => ?_, fun l hl => ?_, t.SL, t.SB, t.LB, fun i k c e hc he hik => ?_, fun c hc x hx => ?_, ?_, t.S0, t.L0, fun c hc => ?_⟩
  · rw [upd_ne t.SL]
    exact g _ _ hS (nd' hS)
  · have e1 : ((bs.set j { b with ks := ks, xs := zs }).map fun b => V.ref b.p) = bs.map fun b => V.ref b.p := by
      rw [List.map_set]
      refine List.ext_getElem? fun i => ?_
      rw [List.getElem?_set]
      split
      · rename_i e
        subst e
        rw [List.getElem?_map, hb]
        simp [hj]
      · rfl
    rw [e1, upd_ne t.LB.symm]
    exact g _ _ t.bl (nd' t.bl)
  · rcases set_mem c hc with rfl | ⟨i, hi, h'⟩
    · obtain ⟨⟨dy, ob'⟩, dc'⟩ := nb
      exact ⟨⟨⟨dy, by rw [upd_ne (nL ob (fun _ e => by cases e))]; exact ob'⟩, by rw [upd_ne (nL dc (fun _ e => by cases e))]; exact dc'⟩, nd, up, same, fit⟩
    · exact stay i c h' hi
  · rw [List.getElem?_set] at hl
    rcases set_get i c hc with ⟨rfl, rfl⟩ | ⟨hi, h'⟩
    · rw [if_pos rfl, if_pos hjl] at hl
      obtain rfl := Option.some.inj hl
      rw [upd_ne hqL]
      exact hq'
    · rw [if_neg (fun e => hi e.symm)] at hl
      have h1 := t.du i l c hl h'
      rw [upd_ne (t.nS l (List.mem_of_getElem? hl)).2]
      exact g _ _ h1 (nd' h1)
  · rcases List.mem_or_eq_of_mem_set hl with h | h
    · exact t.nS l h
    · rw [h]
      exact ⟨hqS, hqL⟩
  · rcases set_get i c hc with ⟨rfl, rfl⟩ | ⟨hi, h1⟩
    · rcases set_get k e he with ⟨rfl, rfl⟩ | ⟨hk, h2⟩
      · exact absurd rfl hik
      · exact t.ap i k b e hb h2 hik
    · rcases set_get k e he with ⟨rfl, rfl⟩ | ⟨hk, h2⟩
      · exact t.ap i k c b h1 hb hik
      · exact t.ap i k c e h1 h2 hik
  · rcases set_mem c hc with rfl | ⟨i, hi, h'⟩
    · exact un x hx
    · exact hU x (t.un c (List.mem_of_getElem? h') x hx)
  · refine But.fresh (fun x o h _ => g x o (t.fr x o h id) fun e => ?_) t.L0
    rw [e, t.d0 b hm] at h
    cases h
  · rcases set_mem c hc with rfl | ⟨i, hi, h'⟩
    · exact t.d0 b hm
    · exact t.d0 c (List.mem_of_getElem? h')
end
end K10

set_option Elab.async false
set_option linter.all false
set_option maxRecDepth 100000
set_option maxHeartbeats 8000000
set_option pp.maxSteps 300
namespace K10
open PySem L2 L2.G42
open Evl (pss_cut)
open PyProof.Rows (boot_isinstance boot_int boot_bool boot_list boot_set boot_abs boot_enumerate)
abbrev sLaw : Stmt := top 18
/-- an operator's method -/
structure Op2 (P : Program) (w : World) (K : PySem.W.Frag) (mg : Str → Option Value) (base : Heap) (n : Nat) (C : Addr) (m : Str) (sp : Sp) : Prop where
  ex : ∃ (f : Addr) (fd : FuncData) (ps : List Str), FnOk P w K mg base CX0 n f fd ps sp ∧ PySem.W.findIn K (.ref C) m = some (some (.ref f)) ∧ PySem.W.isFn K (.ref f) = true ∧ PySem.W.selfFirst K C = true ∧ Binds K fd ps []
/-- Bag(x, shared=y) -/
structure MkS (P : Program) (w : World) (K : PySem.W.Frag) (mg : Str → Option Value) (base : Heap) (C : Addr) : Prop where
  ex : ∃ (f : Addr) (fd : FuncData), Mk K C f ∧ FnOk P w K mg base CX0 3 f fd ["self", "values", "shared"] (spInit K C) ∧ KBn K fd ["self", "values", "shared"] 2 ["shared"] (fun us ws => us ++ ws) (fun vs zs => vs ++ zs)
/-- what law calls -/
structure Calls (P : Program) (w : World) (K : PySem.W.Frag) (mg : Str → Option Value) (base : Heap) (C : Addr) : Prop where
  source : Cl P w K mg base 1 "_law_source" (spSource K) []
  take : Cl P w K mg base 1 "_law_take" spTake []
  value : Cl P w K mg base 2 "_law_value" spValue []
  values : Cl P w K mg base 3 "_law_values" spValues []
  due : Cl P w K mg base 1 "_law_due" (spDue K) []
  all : Cl P w K mg base 2 "_law_all_told" (spAll C) []
  told : Mt P w K mg base 1 C "told" (spTold C) []
  add : Mt P w K mg base 3 C "add" (spAdd C) []
  clear : Mt P w K mg base 1 C "clear" (spClear C) []
  bag : Nw P w K mg base 3 "Bag" C (spInit K C) [.bl false]
  bagS : MkS P w K mg base C
  or : Op2 P w K mg base 5 C "__or__" (spOr C)
  sub : Op2 P w K mg base 5 C "__sub__" (spSub C)
  ior : Op2 P w K mg base 1 C "__ior__" (spIor C)
  isub : Op2 P w K mg base 1 C "__isub__" (spIsub C)
  plain : Plain K C
  sL : PySem.W.subIn K (.type "list") (.ref C) = some false
  mL : PySem.W.mroIn K C (.type "list") = some false
def spLaw (K : PySem.W.Frag) : Sp := fun vs H Q _ => ∃ (a : Addr) (ns : List Int), vs = [.ref a] ∧ SqL K H a (ns.map V.int) ∧ ns.length ≤ 63 ∧ ∀ H', Q (.bl true) H'
abbrev NLaw : List Str := ["_law_script", "_law_at", "_law_source_here", "_law_dues", "_law_turn", "_law_bags", "_law_due_here", "_law_j", "_law_k", "_law_is_put", "_law_new", "_law_bag", "_law_held", "_law_one", "_law_value_here"]
theorem scLaw : FnScope NLaw ["_law_script"] (defScope sLaw) := ⟨rfl, rfl, rfl, by decide +kernel, rfl, by decide +kernel, by decide +kernel⟩
section
variable {P : Program} {w : World} {K : PySem.W.Frag} {mg : Str → Option Value} {base : Heap} {C : Addr}
theorem make_one {H : Hp} {R : Hp → Prop} {E : XK} {l : Addr} {ns : List Int} {sh : Bool} (hl : SqL K H l (ns.map V.int)) (fit : ∀ n ∈ ns, Fits n) (few : ns.length ≤ 1000) {x dx : Addr} (hx : H x = none) (hdx : H dx = none) (ne : dx ≠ x)
    (k : ∀ (d : Addr) (H' : Hp), H d = none → BagAt C H' x d sh (insAll [] ns) → But (fun _ => False) H H' → R H') :
    spInit K C [.ref x, .ref l, .bl sh] (upd (upd H dx (.own x)) x (.ins C dx [])) (fun v H2 => v = .non ∧ R H2) E := by
  have g : But (fun _ => False) H (upd (upd H dx (.own x)) x (.ins C dx [])) := But.fresh (But.new hdx) hx
  refine ⟨x, dx, l, ns, sh, rfl, upd_same, SqL.grow hl g, fit, few, fun d H' hd B bt => ⟨rfl, k d H' (g.free hd) B fun b o hb _ => ?_⟩⟩
  exact bt b o (g b o hb id) (ne_of_none hb hx)
theorem ok_law {f : Addr} {fd : FuncData} (F : Fun K "law" "law" sLaw f fd) (T : Txt K mg C) (c : Calls P w K mg base C) : FnOk P w K mg base CX0 6 f fd ["_law_script"] (spLaw K) := by
  refine F.ok scLaw (fun vs H Q E h => ?_) (fun cdv A outer s H vs Q E hr h => ?_)
  · obtain ⟨a, ns, rfl, _⟩ := h
    rfl
  · obtain ⟨a, ns, rfl, ha, few, k⟩ := h
    have hu := hu_of hr
    have hu0 := Nat.lt_of_succ_lt hu
    obtain ⟨fo, fdo, pso, Fo, so, io, co, bo⟩ := c.or.ex
    obtain ⟨fs, fds, pss, Fs, ss, is, cs, bs⟩ := c.sub.ex
    obtain ⟨fi, fdi, psi, Fi, si, ii, ci, bi⟩ := c.ior.ex
    obtain ⟨fj, fdj, psj, Fj, sj, ij, cj, bj⟩ := c.isub.ex
    obtain ⟨fm, fdm, Mm, Fm, bm⟩ := c.bagS.ex
    refine ⟨_, (pss_cons (ps_for PassesOwn.never rfl (pi_range1 (by rfl) T.range (pa_cons (pe_callB (call_max2 rfl) (by rfl) T.max boot_max (pa_cons pe_int (pa_cons (pe_callB (call_min2 rfl) (by rfl) T.min boot_min (pa_cons pe_int (pa_cons (pe_callB call_len_seq (by rfl) T.len PySem.boot_len (pa_cons (pv 0) pa_nil)) pa_nil))) pa_nil))) pa_nil)) (pg_name (i := 1) scLaw.nd rfl (.inl rfl))
      (pss_cons (ps_set (i := 2) scLaw.nd rfl (.inr rfl) (pe_c c.source hr (by decide) rfl (pa_cons (pv 0) (pa_cons (pv 1) pa_nil))))
        (pss_cons (ps_setLc (i := 3) (own := [("_law_turn", 4)]) (g := gName 4) (tt := tYes) (te := tCB (rSortedSet w) (tCons (tCB (rSetL K w) (tCons (tCall spValues [] E0 (tCons (tVar 2) (tCons (tC (.int 5)) tNil))) tNil)) tNil)) rfl scLaw.nd rfl rfl (sw_true rfl rfl rfl (by decide +kernel)) (pi_range1 (by rfl) T.range (pa_cons pe_int pa_nil)) (blkOk_by (own := [("_law_turn", 4)]) (N := NLaw) (sc := defScope sLaw) (by decide +kernel))
          (fun _ _ _ _ _ => (pg_name (i := 4) scLaw.nd rfl (.inl rfl))) (fun _ _ _ _ _ => pts_nil) (fun _ _ _ _ _ => (pe_callB (cr_sortedSet rfl) (by rfl) T.sorted boot_sorted (pa_cons (pe_callTy (cr_setL rfl) (by rfl) T.set boot_set (pa_cons (pe_c c.values hr (by decide) rfl (pa_cons (pv 2) (pa_cons pe_int pa_nil))) pa_nil)) pa_nil))))
        (pss_cons (ps_setLc (i := 5) (own := [("_law_due_here", 6)]) (g := gName 6) (tt := tYes) rfl scLaw.nd rfl rfl (sw_true rfl rfl rfl (by decide +kernel)) (pi_list (pv 3)) (blkOk_by (own := [("_law_due_here", 6)]) (N := NLaw) (sc := defScope sLaw) (by decide +kernel))
          (fun _ _ _ _ _ => (pg_name (i := 6) scLaw.nd rfl (.inl rfl))) (fun _ _ _ _ _ => pts_nil) (fun _ _ _ _ _ => (pe_makeN Mm Fm (hr.mono (by decide)) rfl T.mgC bm pass0 (pa_cons (pv 6) pa_nil) (pk_cons (pe_cmpR op_eq (pe_c c.take hr (by decide) rfl (pa_cons (pv 2) (pa_cons pe_int pa_nil))) pe_int (nomark _)) pk_nil))))
        (pss_cons (ps_for PassesOwn.never rfl (pi_range1 (by rfl) T.range (pa_cons (pe_c c.take hr (by decide) rfl (pa_cons (pv 2) (pa_cons pe_int pa_nil))) pa_nil)) (pg_name (i := 4) scLaw.nd rfl (.inl rfl))
          (pss_cons (ps_par3 rfl scLaw.nd rfl rfl rfl (by decide) (by decide) (by decide) rfl rfl rfl (pa_cons (pe_c c.take hr (by decide) rfl (pa_cons (pv 2) (pa_cons pe_int pa_nil))) (pa_cons (pe_c c.take hr (by decide) rfl (pa_cons (pv 2) (pa_cons pe_int pa_nil))) (pa_cons (pe_cmpR op_eq (pe_c c.take hr (by decide) rfl (pa_cons (pv 2) (pa_cons pe_int pa_nil))) pe_int (nomark _)) pa_nil))) (by rfl) (i := 7) (j := 8) (l := 9))
          (pss_cut (ps_set (i := 10) scLaw.nd rfl (.inr rfl) (pe_ifExp (pt_val (pv 9)) (pe_op (op_own (op := .BitOr) Fo so io co bo hr pass0) (pe_ix ix_list (pv 5) (pv 7) (fun _ _ => rfl)) (pe_ix ix_list (pv 5) (pv 8) (fun _ _ => rfl))) (pe_op (op_own (op := .Sub) Fs ss is cs bs hr pass0) (pe_ix ix_list (pv 5) (pv 7) (fun _ _ => rfl)) (pe_ix ix_list (pv 5) (pv 8) (fun _ _ => rfl)))))
          (pss_cons (ps_if (PW.pt (pw_or (pt_cmpR (op_neD hr.units) (pe_mt0 c.told hr (by decide) (pv 10)) (pe_c c.due hr (by decide) rfl (pa_cons (pe_ix ix_list (pv 3) (pv 7) (fun _ _ => rfl)) (pa_cons (pe_ix ix_list (pv 3) (pv 8) (fun _ _ => rfl)) (pa_cons (pv 9) pa_nil)))) (nomark _)) (pw_or1 (pt_cmpR op_notBl (pe_fld (pv 10) rfl) pe_bl (nomark _)))))
          (pss_one (ps_ret pe_bl))
          pss_nil)
          (pss_cons (ps_if (PW.pt (pw_or (pt_val (pe_callB (cr_any rfl) (by rfl) T.any boot_any (pa_cons (pe_lc (own := [("_law_bag", 11)]) (g := gName 11) (tt := tYes) (te := tOp (rEqI C) (tVar 10) (tVar 11)) rfl scLaw.nd (pi_list (pv 5)) (blkOk_by (own := [("_law_bag", 11)]) (N := NLaw) (sc := defScope sLaw) (by decide +kernel))
              (fun _ _ _ _ _ => (pg_name (i := 11) scLaw.nd rfl (.inl rfl))) (fun _ _ _ _ _ => pts_nil) (fun _ _ _ _ _ => (pe_cmpR (op_eqI c.plain hu0) (pv 10) (pv 11) (nomark _)))) pa_nil))) (pw_or1 (pt_cmpR (op_neD hr.units) (pe_c c.all hr (by decide) rfl (pa_cons (pv 5) pa_nil)) (pv 3) (nomark _)))))
          (pss_one (ps_ret pe_bl))
          pss_nil)
          (pss_cons (ps_expr (pe_mt c.add hr (by decide) (pv 10) (pa_cons pe_int pa_nil)))
          (pss_cons (ps_expr (pe_mt0 c.clear hr (by decide) (pv 10)))
          (pss_cons (ps_par rfl scLaw.nd rfl rfl (by decide) rfl rfl (pa_cons (pe_ix ix_list (pv 5) (pv 7) (fun _ _ => rfl)) (pa_cons (pe_ix ix_list (pv 5) (pv 7) (fun _ _ => rfl)) pa_nil)) (by rfl) (i := 12) (j := 13))
          (pss_cut (ps_if (pt_val (pv 9))
          (pss_one (ps_aug (i := 13) scLaw.nd rfl (.inl rfl) (pe_ix ix_list (pv 5) (pv 8) (fun _ _ => rfl)) (iop_own (op := .BitOr) Fi si ii ci bi (hr.mono (by decide)) pass0)))
          (pss_one (ps_aug (i := 13) scLaw.nd rfl (.inl rfl) (pe_ix ix_list (pv 5) (pv 8) (fun _ _ => rfl)) (iop_own (op := .Sub) Fj sj ij cj bj (hr.mono (by decide)) pass0))))
          (pss_cons (ps_asg (pe_c c.due hr (by decide) rfl (pa_cons (pe_ix ix_list (pv 3) (pv 7) (fun _ _ => rfl)) (pa_cons (pe_ix ix_list (pv 3) (pv 8) (fun _ _ => rfl)) (pa_cons (pv 9) pa_nil)))) (pg_sub (pv 3) (pv 7) set_list))
          (pss_cons (ps_if (PW.pt (pw_or (pt_not (pt_cmpR (op_eqI c.plain hu0) (pv 13) (pv 12) (nomark _))) (pw_or (pt_cmpR (op_neD hr.units) (pe_c c.all hr (by decide) rfl (pa_cons (pv 5) pa_nil)) (pv 3) (nomark _)) (pw_or1 (pt_cmpR (op_neD hr.units) (pe_mt0 c.told hr (by decide) (pv 10)) (pe_lst pa_nil) (nomark _))))))
          (pss_one (ps_ret pe_bl))
          pss_nil)
          (pss_cons (ps_if (PW.pt (pw_or (pt_cmpR (op_neD hr.units) (pe_mt0 c.told hr (by decide) (pv 12)) (pe_ix ix_list (pv 3) (pv 7) (fun _ _ => rfl)) (nomark _)) (pw_or1 (pt_cmpR op_ne (pe_fld (pv 13) rfl) (pe_fld (pv 12) rfl) (nomark _)))))
          (pss_one (ps_ret pe_bl))
          pss_nil)
          (pss_cut (ps_if (pt_cmpR op_eq (pe_c c.take hr (by decide) rfl (pa_cons (pv 2) (pa_cons pe_int pa_nil))) pe_int (nomark _))
          (pss_cons (ps_set (i := 14) scLaw.nd rfl (.inl rfl) (pe_c c.value hr (by decide) rfl (pa_cons (pv 2) pa_nil)))
            (pss_cons (ps_expr (pe_mt c.add hr (by decide) (pv 12) (pa_cons (pv 14) pa_nil)))
            (pss_one (ps_asg (pe_callB (cr_sortedSet rfl) (by rfl) T.sorted boot_sorted (pa_cons (pe_callTy (cr_setL rfl) (by rfl) T.set boot_set (pa_cons (pe_op op_cat (pe_ix ix_list (pv 3) (pv 7) (fun _ _ => rfl)) (pe_lst (pa_cons (pv 14) pa_nil))) pa_nil)) pa_nil)) (pg_sub (pv 3) (pv 7) set_list)))))
          pss_nil)
          (pss_one (ps_if (PW.pt (pw_or (pt_cmpR (op_neD hr.units) (pe_mt0 c.told hr (by decide) (pv 13)) (pe_ix ix_list (pv 3) (pv 7) (fun _ _ => rfl)) (nomark _)) (pw_or1 (pt_cmpR (op_neD hr.units) (pe_c c.all hr (by decide) rfl (pa_cons (pv 5) pa_nil)) (pv 3) (nomark _)))))
          (pss_one (ps_ret pe_bl))
          pss_nil)))))))))))))))
        (pss_cons (ps_if (PW.pt (pw_or (pt_cmpR (op_eqI c.plain hu0) (pe_ix ix_list (pv 5) pe_int (fun _ _ => rfl)) (pe_ix ix_list (pv 5) pe_int (fun _ _ => rfl)) (nomark _)) (pw_or (pt_cmpR (op_eqI c.plain hu0) (pe_ix ix_list (pv 5) pe_int (fun _ _ => rfl)) (pe_ix ix_list (pv 5) pe_int (fun _ _ => rfl)) (nomark _)) (pw_or (pt_cmpR (op_eqIL c.plain c.sL c.mL hu0) (pe_ix ix_list (pv 5) pe_int (fun _ _ => rfl)) (pe_ix ix_list (pv 3) pe_int (fun _ _ => rfl)) (nomark _)) (pw_or1 (pt_not (pt_cmpR (op_eqI c.plain hu0) (pe_ix ix_list (pv 5) pe_int (fun _ _ => rfl)) (pe_ix ix_list (pv 5) pe_int (fun _ _ => rfl)) (nomark _))))))))
        (pss_one (ps_ret pe_bl))
        pss_nil)
        (pss_one (ps_if (PW.pt (pw_or (pt_cmpR (op_neI c.plain hu) (pe_ix ix_list (pv 5) pe_int (fun _ _ => rfl)) (pe_ix ix_list (pv 5) pe_int (fun _ _ => rfl)) (nomark _)) (pw_or1 (pt_not (pt_cmpR (op_neI c.plain hu) (pe_ix ix_list (pv 5) pe_int (fun _ _ => rfl)) (pe_mk c.bag hr (by decide) rfl (pa_cons (pe_ix ix_list (pv 3) pe_int (fun _ _ => rfl)) pa_nil)) (nomark _))))))
        (pss_one (ps_ret pe_bl))
        pss_nil))))))))
      (pss_one (ps_ret pe_bl))), ?_⟩
    -- range(max(1, min(4, len(script))))
    refine ⟨_, rfl, a, _, rfl, .inl ha, _, _, rfl, _, _, rfl, _, rfl, ?_, ?_, ?_⟩
    · split <;> split <;> omega
    · split <;> split <;> simp at * <;> omega
    refine for_range (lo := 0) (fun _ σ H1 => But (fun _ => False) H H1 ∧ ∃ x1 x2 x3 x4 x5 x6 x7 x8 x9 x10 x11 x12 x13 x14 : Option V, σ = [some (.ref a), x1, x2, x3, x4, x5, x6, x7, x8, x9, x10, x11, x12, x13, x14])
      ⟨But.refl, _, _, _, _, _, _, _, _, _, _, _, _, _, _, rfl⟩ ?_ (fun σ H1 h => k H1)
    rintro i σ H1 hi ⟨g1, x1, x2, x3, x4, x5, x6, x7, x8, x9, x10, x11, x12, x13, x14, rfl⟩
    -- the source
    refine ⟨_, rfl, _, rfl, a, ns, _, rfl, by omega, SqL.grow ha g1, fun S H2 hS src2 g2 => ?_⟩
    -- the lists due
    refine ⟨_, rfl, by decide, by decide, fun L hL => ?_⟩
    have hLS : L ≠ S := by
      obtain ⟨u1, u2, u3, u4⟩ := src2
      exact (ne_of_none u4 hL).symm
    have hL1 : H1 L = none := g2.free hL
    refine lc_range (lo := 0) (n := (3 : Int).toNat) (fun i H3 => ∃ (ls : List Addr) (xss : List (List Int)), H3 L = some (.lst (ls.map V.ref)) ∧ ls.length = i ∧ xss.length = i ∧ (∀ (j : Nat) l xs, ls[j]? = some l → xss[j]? = some xs → H3 l = some (.lst (xs.map V.int))) ∧
        (∀ xs ∈ xss, xs.Pairwise (· < ·) ∧ (∀ n ∈ xs, Fits n) ∧ xs.length ≤ 6) ∧ (∀ l ∈ ls, l ≠ S ∧ l ≠ L ∧ H3 l ≠ none) ∧ SrcAt H3 S ∧ But (fun _ => False) H1 H3)
      ⟨[], [], upd_same, rfl, rfl, by simp, by simp, by simp, ?_, ?_⟩ (fun j H3 hj h => ?_) (fun H3 h => ?_)
    · obtain ⟨u1, u2, u3, u4⟩ := src2
      exact ⟨u1, u2, u3, by rw [upd_ne hLS.symm]; exact u4⟩
    · exact g2.fresh hL1
    · obtain ⟨ls, xss, h1, h2, h3, h4, h5, h6, h7, h8⟩ := h
      refine ⟨rfl, ?_⟩
      refine ⟨_, rfl, S, 5, rfl, by decide, h7, fun p ms H4 hp hp' len fit src4 g4 => ?_⟩
      obtain ⟨xs, up, same⟩ := ex_rise ms
      dsimp only [tNil]
      refine set_sorted (K := K) (w := w) (ns := ms) (xs := xs) (SqL.of hp') (by omega) up (fun x => (same x).symm) fun q H5 hq hq' g5 => ?_
      have g45 : But (· = S) H3 H5 := g4.trans (g5.mono fun _ h => h.elim)
      have hqn : ∀ {x : Addr} {o : HO}, H3 x = some o → x ≠ S → q ≠ x := fun {x o} h hx e => by
        subst e
        rw [g4 _ _ h hx] at hq
        cases hq
      have hqS : q ≠ S := by
        obtain ⟨u1, u2, u3, u4⟩ := src4
        exact (ne_of_none u4 hq).symm
      have hqL : q ≠ L := hqn h1 hLS
      refine ⟨ls.map V.ref, g45 _ _ h1 hLS, by rw [List.length_map]; exact szl (by omega), ls ++ [q], xss ++ [xs], ?_, ?_, ?_, ?_, ?_, ?_, ?_, ?_⟩
      · rw [upd_same, List.map_append]; rfl
      · rw [List.length_append, h2]; rfl
      · rw [List.length_append, h3]; rfl
      · intro m l ys hl hy
        rcases Nat.lt_or_ge m j with lt | ge
        · rw [List.getElem?_append_left (by omega)] at hl hy
          have hlm := h6 l (List.mem_of_getElem? hl)
          rw [upd_ne hlm.2.1]
          exact g45 _ _ (h4 m l ys hl hy) hlm.1
        · rw [List.getElem?_append_right (by omega)] at hl hy
          have e0 : m - ls.length = 0 := by
            have := (List.getElem?_eq_some_iff.mp hl).1
            rw [List.length_singleton] at this
            omega
          have e1 : m - xss.length = 0 := by omega
          rw [e0] at hl
          rw [e1] at hy
          have e2 : q = l := by simpa using hl
          have e3 : xs = ys := by simpa using hy
          subst e2; subst e3
          rw [upd_ne hqL]
          exact hq'
      · intro ys hy
        rcases List.mem_append.mp hy with hy | hy
        · exact h5 ys hy
        · rw [List.mem_singleton.mp hy]
          refine ⟨up, fun n hn => fit n ((same n).2 hn), Nat.le_trans (nd_len (up_nd up) fun x hx => (same x).2 hx) ?_⟩
          omega
      · intro l hl
        rcases List.mem_append.mp hl with hl | hl
        · obtain ⟨u1, u2, u3⟩ := h6 l hl
          refine ⟨u1, u2, ?_⟩
          rw [upd_ne u2]
          cases e : H3 l with
          | none => exact absurd e u3
          | some o => rw [g45 l o e u1]; simp
        · rw [List.mem_singleton.mp hl]
          refine ⟨hqS, hqL, ?_⟩
          rw [upd_ne hqL, hq']
          simp
      · obtain ⟨u1, u2, u3, u4⟩ := src4
        exact ⟨u1, u2, u3, by rw [upd_ne hLS.symm]; exact g5 _ _ u4 id⟩
      · refine But.fresh (fun x o hx _ => ?_) hL1
        exact g45 x o (h8 x o hx id) (ne_of_none hx hS)
    obtain ⟨ls, xss, h1, h2, h3, h4, h5, h6, h7, h8⟩ := h
    have h2' : ls.length = 3 := h2
    have h3' : xss.length = 3 := h3
    have srcS := h7
    -- the bags
    refine ⟨_, rfl, L, rfl, ⟨_, SqL.of h1⟩, fun B hB => ?_⟩
    have hBS : B ≠ S := by
      obtain ⟨u1, u2, u3, u4⟩ := h7
      exact (ne_of_none u4 hB).symm
    have hBL : B ≠ L := (ne_of_none h1 hB).symm
    have hB1 : H1 B = none := h8.free hB
    refine lc_list (xs := ls.map V.ref) (fun i H4 => ∃ bs : List Bg, H4 B = some (.lst (bs.map fun b => V.ref b.p)) ∧ bs.length = i ∧ (∀ b ∈ bs, b.Ok C H4) ∧ (∀ (j : Nat) b, bs[j]? = some b → xss[j]? = some b.xs) ∧
        (∀ (m n : Nat) b e, bs[m]? = some b → bs[n]? = some e → m ≠ n → b.d ≠ e.d ∧ b.p ≠ e.p) ∧ (∀ b ∈ bs, H1 b.d = none) ∧ SrcAt H4 S ∧ But (· = S) H3 H4)
      ⟨[], upd_same, rfl, by simp, by simp, by simp, by simp, ?_, But.new hB⟩ (fun i H4 _ h => ?_) (fun m x H4 hm h => ?_) (fun H4 h => ?_)
    · obtain ⟨u1, u2, u3, u4⟩ := h7
      exact ⟨u1, u2, u3, by rw [upd_ne hBS.symm]; exact u4⟩
    · obtain ⟨bs, _, _, _, _, _, _, _, g⟩ := h
      exact SqL.of (g _ _ h1 hLS)
    · obtain ⟨bs, b1, b2, b3, b4, b5, b6, b7, b8⟩ := h
      rw [List.getElem?_map] at hm
      obtain ⟨l, hl, rfl⟩ := Option.map_eq_some_iff.mp hm
      have hml : m < 3 := by
        have := (List.getElem?_eq_some_iff.mp hl).1
        omega
      have hmx : m < xss.length := by omega
      have hx : xss[m]? = some xss[m] := List.getElem?_eq_getElem hmx
      obtain ⟨up, fit, sz⟩ := h5 _ (List.getElem_mem hmx)
      have hl3 := h4 m l _ hl hx
      have hlS := (h6 l (List.mem_of_getElem? hl)).1
      refine ⟨rfl, ?_⟩
      refine ⟨_, rfl, _, rfl, S, 2, rfl, by decide, by decide, b7, fun r c1 st1 n1 r0 r1 => ⟨rfl, rfl, rfl, ?_⟩⟩
      generalize hsh : decide (V.int r = V.int 0) = sh
      obtain ⟨u1, u2, u3, uS⟩ := b7
      have g5 : But (· = S) H4 (upd H4 S (src c1 st1 n1)) := But.at rfl
      have hl5 : (upd H4 S (src c1 st1 n1)) l = some (.lst (xss[m].map V.int)) := g5 _ _ (b8 _ _ hl3 hlS) hlS
      have hB5 : (upd H4 S (src c1 st1 n1)) B = some (.lst (bs.map fun b => V.ref b.p)) := g5 _ _ b1 hBS
      intro x dx hx6 hdx6 nex
      refine make_one (sh := sh) (SqL.of hl5) fit (by omega) hx6 hdx6 nex fun d H6 hd6 Bx g6 => ?_
      have hH1 : ∀ {y : Addr} {o : HO}, H1 y = some o → y ≠ S := fun h => ne_of_none h hS
      have d1 : H1 d = none := by
        cases e : H1 d with
        | none => rfl
        | some o => rw [g5 _ _ (b8 _ _ (h8 _ _ e id) (hH1 e)) (hH1 e)] at hd6; cases hd6
      have notS : ∀ {y : Addr} {o : HO}, H4 y = some o → (∀ vs, o ≠ .lst vs) → ¬ y = S := fun {y o} h hn e => by
        rw [e, uS] at h
        exact hn _ (Option.some.inj h).symm
      have notB : ∀ {y : Addr} {o : HO}, H6 y = some o → (∀ vs, o ≠ .lst vs) → y ≠ B := fun {y o} h hn e => by
        rw [e, g6 _ _ hB5 id] at h
        exact hn _ (Option.some.inj h).symm
      have old : ∀ b ∈ bs, b.Ok C (upd H6 B (.lst ((bs.map fun b => V.ref b.p) ++ [V.ref x]))) ∧ b.d ≠ d ∧ b.p ≠ x := fun b hb => by
        have o := b3 b hb
        obtain ⟨⟨dy, ob⟩, dc⟩ := o.bag
        have e1 := g5 _ _ ob (notS ob fun _ e => by cases e)
        have e2 := g5 _ _ dc (notS dc fun _ e => by cases e)
        refine ⟨⟨⟨⟨dy, ?_⟩, ?_⟩, o.nd, o.up, o.same, o.fit⟩, ne_of_none e2 hd6, ne_of_none e1 hx6⟩
        · rw [upd_ne (notB (g6 _ _ e1 id) fun _ e => by cases e)]
          exact g6 _ _ e1 id
        · rw [upd_ne (notB (g6 _ _ e2 id) fun _ e => by cases e)]
          exact g6 _ _ e2 id
      refine ⟨_, g6 _ _ hB5 id, by rw [List.length_map]; exact szl (by omega), bs ++ [⟨x, d, sh, insAll [] xss[m], xss[m]⟩], ?_, ?_, ?_, ?_, ?_, ?_, ?_, ?_⟩
      · rw [upd_same, List.map_append]; rfl
      · rw [List.length_append, b2]; rfl
      · intro b hb
        rcases List.mem_append.mp hb with hb | hb
        · exact (old b hb).1
        · rw [List.mem_singleton.mp hb]
          obtain ⟨⟨dy, ob⟩, dc⟩ := Bx
          refine ⟨⟨⟨dy, ?_⟩, ?_⟩, insAll_nd _ List.nodup_nil, up, fun y => by rw [insAll_mem]; simp, fun y hy => fit y ?_⟩
          · rw [upd_ne (notB ob fun _ e => by cases e)]
            exact ob
          · rw [upd_ne (notB dc fun _ e => by cases e)]
            exact dc
          · have := (insAll_mem y xss[m] []).1 hy
            simpa using this
      · intro j b hj
        rcases Nat.lt_or_ge j bs.length with lt | ge
        · rw [List.getElem?_append_left lt] at hj
          exact b4 j b hj
        · rw [List.getElem?_append_right ge] at hj
          have e0 : j - bs.length = 0 := by
            have := (List.getElem?_eq_some_iff.mp hj).1
            rw [List.length_singleton] at this
            omega
          rw [e0] at hj
          have e1 : b = ⟨x, d, sh, insAll [] xss[m], xss[m]⟩ := by simpa using hj.symm
          have e2 : j = m := by omega
          subst e2
          rw [e1]
          exact hx
      · intro j n b e hj hn hne
        rcases Nat.lt_or_ge j bs.length with lt | ge
        · rw [List.getElem?_append_left lt] at hj
          rcases Nat.lt_or_ge n bs.length with lt' | ge'
          · rw [List.getElem?_append_left lt'] at hn
            exact b5 j n b e hj hn hne
          · rw [List.getElem?_append_right ge'] at hn
            have e0 : n - bs.length = 0 := by
              have := (List.getElem?_eq_some_iff.mp hn).1
              rw [List.length_singleton] at this
              omega
            rw [e0] at hn
            have e1 : e = ⟨x, d, sh, insAll [] xss[m], xss[m]⟩ := by simpa using hn.symm
            rw [e1]
            exact (old b (List.mem_of_getElem? hj)).2
        · rw [List.getElem?_append_right ge] at hj
          have e0 : j - bs.length = 0 := by
            have := (List.getElem?_eq_some_iff.mp hj).1
            rw [List.length_singleton] at this
            omega
          rw [e0] at hj
          have e1 : b = ⟨x, d, sh, insAll [] xss[m], xss[m]⟩ := by simpa using hj.symm
          rcases Nat.lt_or_ge n bs.length with lt' | ge'
          · rw [List.getElem?_append_left lt'] at hn
            rw [e1]
            have o := (old e (List.mem_of_getElem? hn)).2
            exact ⟨o.1.symm, o.2.symm⟩
          · have : n < (bs ++ [(⟨x, d, sh, insAll [] xss[m], xss[m]⟩ : Bg)]).length := (List.getElem?_eq_some_iff.mp hn).1
            rw [List.length_append, List.length_singleton] at this
            omega
      · intro b hb
        rcases List.mem_append.mp hb with hb | hb
        · exact b6 b hb
        · rw [List.mem_singleton.mp hb]
          exact d1
      · exact ⟨c1, st1, n1, by rw [upd_ne hBS.symm]; exact g6 _ _ upd_same id⟩
      · exact (b8.trans (g5.trans (g6.mono fun _ h => h.elim))).fresh hB
    obtain ⟨bs, b1, b2, b3, b4, b5, b6, b7, b8⟩ := h
    rw [List.length_map] at b2
    have t0 : St3 C H1 H4 S L B ls bs xss.flatten := ⟨b7, b8 _ _ h1 hLS, b1, h2', by omega, b3, fun j l b hj hb => b8 _ _ (h4 j l b.xs hj (b4 j b hb)) (h6 l (List.mem_of_getElem? hj)).1, fun l hl => ⟨(h6 l hl).1, (h6 l hl).2.1⟩, hLS.symm, hBS.symm, hBL.symm, b5,
      fun b hb x hx => by
        obtain ⟨j, hj⟩ := List.getElem?_of_mem hb
        exact List.mem_flatten.mpr ⟨b.xs, List.mem_of_getElem? (b4 j b hj), hx⟩,
      fun y o hy _ => b8 _ _ (h8 _ _ hy id) (ne_of_none hy hS), hS, hL1, b6⟩
    have hU : xss.flatten.length ≤ 18 := by
      match xss, h3', h5 with
      | [y1, y2, y3], _, h5 =>
        have q1 := (h5 y1 (by simp)).2.2
        have q2 := (h5 y2 (by simp)).2.2
        have q3 := (h5 y3 (by simp)).2.2
        simp only [List.flatten_cons, List.flatten_nil, List.length_append, List.length_nil]
        omega
    clear h1 h2 h3 h4 h5 h6 h7 h8 b1 b2 b3 b4 b5 b6 b7 b8 srcS
    -- the deeds
    refine ⟨_, rfl, S, 9, rfl, by decide, by decide, t0.sr, fun m c0 st0 n0 m0 m1 => ⟨_, rfl, by omega, by omega, ?_⟩⟩
    refine for_range (lo := 0) (n := m.toNat) (fun i σ H5 => (∃ x1 x4 x6 x7 x8 x9 x10 x11 x12 x13 x14 : Option V, σ = [some (.ref a), x1, some (.ref S), some (.ref L), x4, some (.ref B), x6, x7, x8, x9, x10, x11, x12, x13, x14]) ∧
        ∃ (ls : List Addr) (bs : List Bg) (U : List Int), St3 C H1 H5 S L B ls bs U ∧ U.length ≤ 18 + i) ⟨⟨_, _, _, _, _, _, _, _, _, _, _, rfl⟩, _, _, _, t0.take _ _ _, hU⟩ ?_ ?_
    · clear t0 hU h3' h2' ls bs xss
      rintro i2 σ H5 hi2 ⟨⟨x1, x4, x6, x7, x8, x9, x10, x11, x12, x13, x14, rfl⟩, ls, bs, U, t, hU⟩
      have hi9 : i2 ≤ 8 := by omega
      have hU26 : U.length ≤ 26 := by omega
      refine ⟨_, rfl, S, 3, rfl, by decide, by decide, t.sr, fun j c1 st1 n1 j0 j1 => ⟨_, rfl, S, 3, rfl, by decide, by decide, (t.take c1 st1 n1).sr, fun kk c2 st2 n2 k0 k1 => ⟨_, rfl, S, 2, rfl, by decide, by decide, ((t.take c1 st1 n1).take c2 st2 n2).sr, fun p c3 st3 n3 p0 p1 => ⟨rfl, _, _, _, rfl, ?_⟩⟩⟩⟩
      have t1 := ((t.take c1 st1 n1).take c2 st2 n2).take c3 st3 n3
      generalize upd (upd (upd H5 S (src c1 st1 n1)) S (src c2 st2 n2)) S (src c3 st3 n3) = H6 at t1 ⊢
      generalize decide (V.int p = V.int 0) = put
      obtain ⟨jn, rfl⟩ := Int.eq_ofNat_of_zero_le j0
      obtain ⟨kn, rfl⟩ := Int.eq_ofNat_of_zero_le k0
      obtain ⟨bJ, eJ, mJ, oJ, vJ⟩ := t1.bag (j := jn) (by omega)
      obtain ⟨bK, eK, mK, oK, vK⟩ := t1.bag (j := kn) (by omega)
      obtain ⟨lJ, fJ, gJ, dJ, wJ⟩ := t1.due eJ
      obtain ⟨lK, fK, gK, dK, wK⟩ := t1.due eK
      obtain ⟨⟨dxJ, obJ⟩, dcJ⟩ := oJ.bag
      obtain ⟨⟨dxK, obK⟩, dcK⟩ := oK.bag
      have fewJ := t1.few mJ
      have fewK := t1.few mK
      obtain ⟨zs, upZ, memZ⟩ := ex_rise (if put = true then bJ.xs ++ bK.xs else bJ.xs.filter fun x => decide (x ∉ bK.xs))
      have memZ' : ∀ x, x ∈ zs ↔ if put = true then x ∈ bJ.xs ∨ x ∈ bK.xs else x ∈ bJ.xs ∧ x ∉ bK.xs := fun x => by
        rw [← memZ x]
        cases put with
        | true => simp
        | false => simp [List.mem_filter]
      have subZ : ∀ x ∈ zs, x ∈ U := fun x hx => by
        have h := (memZ' x).1 hx
        cases put with
        | true => exact h.elim (t1.un bJ mJ x) (t1.un bK mK x)
        | false => exact t1.un bJ mJ x h.1
      -- the new bag
      refine ⟨fun σ H7 => ∃ (x d : Addr) (nk : List Int), σ = [some (.ref a), x1, some (.ref S), some (.ref L), some (.int (0 + i2)), some (.ref B), x6, some (.int jn), some (.int kn), some (.bl put), some (.ref x), x11, x12, x13, x14] ∧
          BagAt C H7 x d false nk ∧ nk.Nodup ∧ (∀ y, y ∈ nk ↔ y ∈ zs) ∧ nk.length ≤ 100 ∧ H6 x = none ∧ H6 d = none ∧ But (fun _ => False) H6 H7, ?_, ?_⟩
      · refine ⟨_, rfl, _, rfl, ite2 (fun hp => ?_) (fun hp => ?_)⟩
        · subst hp
          refine ⟨_, rfl, _, rfl, B, _, _, _, rfl, rfl, SqL.of t1.bl, atI_nat vJ, _, rfl, _, rfl, B, _, _, _, rfl, rfl, SqL.of t1.bl, atI_nat vK, ⟨_, _, _, rfl, obK⟩, _, _, _, rfl, obJ, bJ.p, bJ.d, bK.p, bK.d, bJ.sh, bK.sh, bJ.ks, bK.ks, rfl, oJ.bag, oK.bag, by omega, by omega, oJ.fit, oK.fit, fun x d H7 hx hd Bx g => ?_⟩
          refine ⟨x, d, _, rfl, Bx, insAll_nd _ List.nodup_nil, fun y => ?_, ?_, hx, hd, g⟩
          · rw [insAll_mem, List.mem_append, memZ' y, if_pos rfl, oJ.same y, oK.same y]
            simp
          · have := insAll_len (bJ.ks ++ bK.ks) []
            rw [List.length_append] at this
            simp only [List.length_nil] at this
            omega
        · have hp' : put = false := by cases put with
            | true => exact absurd rfl hp
            | false => rfl
          subst hp'
          refine ⟨_, rfl, _, rfl, B, _, _, _, rfl, rfl, SqL.of t1.bl, atI_nat vJ, _, rfl, _, rfl, B, _, _, _, rfl, rfl, SqL.of t1.bl, atI_nat vK, ⟨_, _, _, rfl, obK⟩, _, _, _, rfl, obJ, bJ.p, bJ.d, bK.p, bK.d, bJ.sh, bK.sh, bJ.ks, bK.ks, rfl, oJ.bag, oK.bag, by omega, oJ.fit, fun x d H7 hx hd Bx g => ?_⟩
          refine ⟨x, d, _, rfl, Bx, insAll_nd _ List.nodup_nil, fun y => ?_, ?_, hx, hd, g⟩
          · rw [insAll_mem, List.mem_filter, memZ' y, if_neg (by decide), ← oJ.same y, ← oK.same y]
            simp
          · have := insAll_len (bJ.ks.filter fun n => decide (n ∉ bK.ks)) []
            have := List.length_filter_le (fun n => decide (n ∉ bK.ks)) bJ.ks
            simp only [List.length_nil] at *
            omega
      rintro σ H7 ⟨x, d, nk, rfl, Bx, ndx, memx, fewx, hx6, hd6, g7⟩
      have t7 := t1.grow g7
      -- new.told() != due(..) or new.shared is not False
      obtain ⟨⟨dxx, obx⟩, dcx⟩ := id Bx
      refine ⟨_, rfl, x, dxx, _, rfl, obx, bl_no _ _ (by decide +kernel) (by decide +kernel), x, d, false, nk, zs, rfl, Bx, ndx, upZ, memx, fun q H8 hq hq' g8 => ?_⟩
      have t8 := t7.grow g8
      have g78 := g7.trans g8
      refine ⟨_, rfl, _, rfl, L, _, _, _, rfl, rfl, SqL.of t8.dl, atI_nat wJ, _, rfl, _, rfl, L, _, _, _, rfl, rfl, SqL.of t8.dl, atI_nat wK, _, rfl, lJ, lK, bJ.xs, bK.xs, zs, put, rfl, g78 _ _ dJ id, g78 _ _ dK id, by omega, oJ.up, upZ, memZ', fun q2 H9 hq2 hq2' g9 => ?_⟩
      have t9 := t8.grow g9
      have g79 := g8.trans g9
      refine ne_ints (SqL.of (g9 _ _ hq' id)) (SqL.of hq2') ⟨_, rfl, iteF ?_⟩
      refine ⟨_, rfl, x, C, dxx, _, _, rfl, g79 _ _ obx id, T.cl, T.nS, bl_sh _ _, false, false, rfl, rfl, _, rfl, iteF ?_⟩
      have Bx9 := Bx.grow g79
      have g69 := g7.trans g79
      clear hq hq' hq2 hq2' g8 g9 t7 t8 t9 g78 g79 g7 obx dcx Bx
      -- any([new == bag ..]) or all_told(bags) != dues
      have t9 := t1.grow g69
      obtain ⟨⟨dxx, obx⟩, dcx⟩ := id Bx9
      refine ⟨_, rfl, B, rfl, ⟨_, SqL.of t9.bl⟩, fun D hD => lc_list (xs := bs.map fun b => V.ref b.p) (fun i H10 => H10 D = some (.lst ((List.replicate i false).map V.bl)) ∧ But (fun _ => False) H9 H10) ⟨upd_same, But.new hD⟩ (fun i H10 _ h => SqL.of (h.2 _ _ t9.bl id)) (fun i v H10 hi h => ?_) (fun H10 h => ?_)⟩
      · rw [List.getElem?_map] at hi
        obtain ⟨b, hb, rfl⟩ := Option.map_eq_some_iff.mp hi
        have hbl : i < bs.length := (List.getElem?_eq_some_iff.mp hb).1
        obtain ⟨⟨dy, ob⟩, dc⟩ := (t9.ok b (List.mem_of_getElem? hb)).bag
        obtain ⟨⟨dy6, ob6⟩, dc6⟩ := (t1.ok b (List.mem_of_getElem? hb)).bag
        have hne : ¬ x = b.p := fun e => by rw [← e, hx6] at ob6; cases ob6
        refine ⟨rfl, ?_⟩
        refine ⟨_, rfl, _, rfl, x, b.p, _, _, _, _, rfl, rfl, h.2 _ _ obx id, h.2 _ _ ob id, _, h.1, ?_, ?_, h.2.fresh hD⟩
        · rw [List.length_map, List.length_replicate]
          exact szl (by rw [t9.blen] at hbl; omega)
        · rw [upd_same, decide_eq_false hne, List.replicate_succ', List.map_append]
          rfl
      obtain ⟨h10, g10⟩ := h
      refine ⟨D, _, rfl, SqL.of h10, _, rfl, ?_⟩
      rw [show (List.replicate (bs.map fun b => V.ref b.p).length false).any id = false by simp]
      have t10 := t9.grow g10
      refine iteF ⟨_, rfl, B, bs, rfl, t10.bl, by rw [t10.blen]; decide, t10.ok, fun q ms H11 hq hq' hms hmb g11 => ⟨_, rfl, (t10.grow g11).ne hq' hms hmb ⟨_, rfl, iteF ?_⟩⟩⟩
      have g9b := g10.trans g11
      have g6b := g69.trans g9b
      have Bx11 := Bx9.grow g9b
      clear hq hq' hms hmb g11 g10 h10 t10 hD dcx Bx9 t9 g69
      obtain ⟨⟨dxx', obx'⟩, dcx'⟩ := id Bx11
      -- new.add(5); new.clear()
      have fewI := ins_len nk 5
      refine ⟨_, rfl, x, dxx', _, rfl, obx', bl_no _ _ (by decide +kernel) (by decide +kernel), x, d, false, nk, 5, rfl, Bx11, ⟨by decide, by decide⟩, by omega, ?_⟩
      have nxd : x ≠ d := ne_of obx' dcx' (by intro z; cases z)
      have Bx12 : BagAt C (upd H11 d (.dK (kv (ins nk 5)))) x d false (ins nk 5) := ⟨⟨dxx', by rw [upd_ne nxd]; exact obx'⟩, upd_same⟩
      have g12 := g6b.fresh (o := .dK (kv (ins nk 5))) hd6
      generalize upd H11 d (.dK (kv (ins nk 5))) = H12 at Bx12 g12 ⊢
      obtain ⟨⟨dx12, ob12⟩, dc12⟩ := id Bx12
      refine ⟨_, rfl, x, dx12, _, rfl, ob12, bl_no _ _ (by decide +kernel) (by decide +kernel), x, d, false, _, rfl, Bx12, fun d' H13 hd' Bx13 g13' => ?_⟩
      have g13 : But (fun _ => False) H6 H13 := fun b o hb _ => g13' b o (g12 b o hb id) (ne_of_none hb hx6)
      have hd'6 : H6 d' = none := g12.free hd'
      clear g13' hd' Bx12 g12 dc12 ob12 dx12 dcx' obx' dxx' Bx11 g9b g6b fewI nxd hd6
      have t13 := t1.grow g13
      -- held, one = bags[j], bags[j]
      refine ⟨_, rfl, _, rfl, B, _, _, _, rfl, rfl, SqL.of t13.bl, atI_nat vJ, _, rfl, _, rfl, B, _, _, _, rfl, rfl, SqL.of t13.bl, atI_nat vJ, _, _, rfl, ?_⟩
      -- one |= bags[k], one -= bags[k]
      refine ⟨fun σ H14 => σ = [some (.ref a), x1, some (.ref S), some (.ref L), some (.int (0 + i2)), some (.ref B), x6, some (.int jn), some (.int kn), some (.bl put), some (.ref x), x11, some (.ref bJ.p), some (.ref bJ.p), x14] ∧
          ∃ ks : List Int, BagAt C H14 bJ.p bJ.d bJ.sh ks ∧ ks.Nodup ∧ (∀ y, y ∈ ks ↔ y ∈ zs) ∧ (∀ n ∈ ks, Fits n) ∧ But (· = bJ.d) H13 H14, ?_, ?_⟩
      · have oJ13 := oJ.grow g13
        have oK13 := oK.grow g13
        refine ⟨_, rfl, _, rfl, ite2 (fun hp => ?_) (fun hp => ?_)⟩
        · subst hp
          refine ⟨_, rfl, _, rfl, _, rfl, B, _, _, _, rfl, rfl, SqL.of t13.bl, atI_nat vK, _, _, _, rfl, g13 _ _ obJ id, bJ.p, bJ.d, bK.p, bK.d, bJ.sh, bK.sh, bJ.ks, bK.ks, rfl, oJ13.bag, oK13.bag, by omega, by omega, fun H14 B14 g14 => ⟨rfl, _, B14, insAll_nd _ oJ.nd, fun y => ?_, fun n hn => ?_, g14⟩⟩
          · rw [insAll_mem, memZ' y, if_pos rfl, oJ.same y, oK.same y]
          · exact ((insAll_mem n bK.ks bJ.ks).1 hn).elim (oJ.fit n) (oK.fit n)
        · have hp' : put = false := by cases put with
            | true => exact absurd rfl hp
            | false => rfl
          subst hp'
          refine ⟨_, rfl, _, rfl, _, rfl, B, _, _, _, rfl, rfl, SqL.of t13.bl, atI_nat vK, _, _, _, rfl, g13 _ _ obJ id, bJ.p, bJ.d, bK.p, bK.d, bJ.sh, bK.sh, bJ.ks, bK.ks, rfl, oJ13.bag, oK13.bag, by omega, by omega, fun H14 B14 g14 => ⟨rfl, _, B14, outAll_nd _ oJ.nd, fun y => ?_, fun n hn => ?_, g14⟩⟩
          · rw [outAll_mem, memZ' y, if_neg (by decide), oJ.same y, oK.same y]
          · exact oJ.fit n ((outAll_mem n bK.ks bJ.ks).1 hn).1
      rintro σ H14 ⟨rfl, ks, B14, nd14, mem14, fit14, g14⟩
      have nJ : ∀ {y : Addr} {o : HO}, H13 y = some o → (∀ kvs, o ≠ .dK kvs) → ¬ y = bJ.d := fun {y o} h hn e => by
        rw [e, g13 _ _ dcJ id] at h
        exact hn _ (Option.some.inj h).symm
      have L14 : H14 L = some (.lst (ls.map V.ref)) := g14 _ _ t13.dl (nJ t13.dl fun _ e => by cases e)
      have lJ14 : H14 lJ = some (.lst (bJ.xs.map V.int)) := g14 _ _ (g13 _ _ dJ id) (nJ (g13 _ _ dJ id) fun _ e => by cases e)
      have lK14 : H14 lK = some (.lst (bK.xs.map V.int)) := g14 _ _ (g13 _ _ dK id) (nJ (g13 _ _ dK id) fun _ e => by cases e)
      -- dues[j] = due(..)
      refine ⟨_, rfl, _, rfl, L, _, _, _, rfl, rfl, SqL.of L14, atI_nat wJ, _, rfl, _, rfl, L, _, _, _, rfl, rfl, SqL.of L14, atI_nat wK, _, rfl, lJ, lK, bJ.xs, bK.xs, zs, put, rfl, lJ14, lK14, by omega, oJ.up, upZ, memZ', fun q H15 hq hq' g15 => ?_⟩
      have hq13 : H13 q = none := by
        cases e : H13 q with
        | none => rfl
        | some o =>
          by_cases eq : q = bJ.d
          · obtain ⟨_, dc14⟩ := B14
            rw [eq, dc14] at hq
            cases hq
          · rw [g14 _ _ e eq] at hq
            cases hq
      have jl : jn < (ls.map V.ref).length := (List.getElem?_eq_some_iff.mp wJ).1
      refine ⟨_, rfl, _, rfl, L, _, _, jn, rfl, rfl, g15 _ _ L14 id, Evl.ixN_nat jl, ?_⟩
      rw [← List.map_set]
      have g1315 : But (· = bJ.d) H13 H15 := g14.trans (g15.mono fun _ h => h.elim)
      have t16 := t13.change (V' := U) eJ (B14.grow g15) g1315 hq13 hq' nd14 upZ (fun y => mem14 y) fit14 subZ (fun y hy => hy)
      have Bx15 : BagAt C H15 x d' false [] := by
        obtain ⟨⟨dxy, obx⟩, dcx⟩ := Bx13
        refine ⟨⟨dxy, g1315 _ _ obx (nJ obx fun _ e => by cases e)⟩, g1315 _ _ dcx fun e => ?_⟩
        rw [e, dcJ] at hd'6
        cases hd'6
      have Bx16 : BagAt C (upd H15 L (.lst ((ls.set jn q).map V.ref))) x d' false [] := by
        obtain ⟨⟨dxy, obx⟩, dcx⟩ := Bx15
        have l15 : H15 L = some (.lst (ls.map V.ref)) := g15 _ _ L14 id
        refine ⟨⟨dxy, ?_⟩, ?_⟩
        · rw [upd_ne (ne_of obx l15 (by intro z; cases z))]
          exact obx
        · rw [upd_ne (ne_of dcx l15 (by intro z; cases z))]
          exact dcx
      generalize upd H15 L (.lst ((ls.set jn q).map V.ref)) = H16 at t16 Bx16 ⊢
      have eJ' : (bs.set jn { bJ with ks := ks, xs := zs })[jn]? = some { bJ with ks := ks, xs := zs } := by
        rw [List.getElem?_set_self]
        exact (List.getElem?_eq_some_iff.mp eJ).1
      generalize bs.set jn { bJ with ks := ks, xs := zs } = bs' at t16 eJ'
      generalize ls.set jn q = ls' at t16
      clear Bx15 g1315 jl hq13 hq hq' g15 lJ14 lK14 L14 nJ g14 t13 g13 hd'6 Bx13 B14
      have mJ' := List.mem_of_getElem? eJ'
      have oJ' := t16.ok _ mJ'
      obtain ⟨⟨dy, ob'⟩, dc'⟩ := id oJ'.bag
      -- not one == held or all_told(bags) != dues or new.told() != []
      refine ⟨_, rfl, _, rfl, bJ.p, bJ.p, _, _, _, _, rfl, rfl, ob', ob', _, rfl, ?_⟩
      rw [decide_eq_true (rfl : bJ.p = bJ.p)]
      refine iteF ⟨_, rfl, B, bs', rfl, t16.bl, by rw [t16.blen]; decide, t16.ok, fun q1 ms H17 hq hq' hms hmb g17 => ⟨_, rfl, (t16.grow g17).ne hq' hms hmb ⟨_, rfl, iteF ?_⟩⟩⟩
      obtain ⟨⟨dxy, obx⟩, dcx⟩ := id (Bx16.grow g17)
      refine ⟨_, rfl, x, dxy, _, rfl, obx, bl_no _ _ (by decide +kernel) (by decide +kernel), x, d', false, [], [], rfl, Bx16.grow g17, List.nodup_nil, .nil, (fun y => Iff.rfl), fun q2 H18 hq2 hq2' g18 => ⟨szle (by decide), fun q3 hq3 => ?_⟩⟩
      refine ne_ints (xs := []) (SqL.of (by rw [upd_ne (ne_of_none hq2' hq3)]; exact hq2')) (SqL.of upd_same) ⟨_, rfl, iteF ?_⟩
      have g1619 := (g17.trans g18).trans (But.new (o := .lst []) hq3)
      generalize upd H18 q3 (.lst []) = H19 at g1619 ⊢
      have t19 := t16.grow g1619
      clear hq hq' hms hmb g17 g18 hq2 hq2' hq3 obx dcx Bx16
      -- held.told() != dues[j] or one.shared != held.shared
      have oJ19 := oJ'.grow g1619
      obtain ⟨⟨dy9, ob9⟩, dc9⟩ := id oJ19.bag
      refine ⟨_, rfl, bJ.p, dy9, _, rfl, ob9, bl_no _ _ (by decide +kernel) (by decide +kernel), bJ.p, bJ.d, bJ.sh, ks, zs, rfl, oJ19.bag, nd14, upZ, (fun y => mem14 y), fun q4 H20 hq4 hq4' g20 => ?_⟩
      have t20 := t19.grow g20
      obtain ⟨lJ', fJ', gJ', dJ', wJ'⟩ := t20.due eJ'
      refine ⟨_, rfl, _, rfl, L, _, _, _, rfl, rfl, SqL.of t20.dl, atI_nat wJ', ne_ints (xs := zs) (SqL.of hq4') (SqL.of dJ') ⟨_, rfl, iteF ?_⟩⟩
      refine ⟨_, rfl, bJ.p, C, dy9, _, _, rfl, g20 _ _ ob9 id, T.cl, T.nS, bl_sh _ _, _, rfl, bJ.p, C, dy9, _, _, rfl, g20 _ _ ob9 id, T.cl, T.nS, bl_sh _ _, rfl, _, rfl, ?_⟩
      rw [decide_eq_true (rfl : V.bl bJ.sh = V.bl bJ.sh)]
      refine iteF ?_
      clear hq4 hq4' dJ' wJ' gJ' fJ' lJ' t19 oJ19 dc9 ob9 dy9 dc' ob' dy oJ' t16 g1619 g20
      -- if take(3) == 0
      refine ⟨fun σ H21 => ∃ (z14 : Option V) (ls2 : List Addr) (bs2 : List Bg) (U2 : List Int) (b2 : Bg), σ = [some (.ref a), x1, some (.ref S), some (.ref L), some (.int (0 + i2)), some (.ref B), x6, some (.int jn), some (.int kn), some (.bl put), some (.ref x), x11, some (.ref bJ.p), some (.ref bJ.p), z14] ∧
          St3 C H1 H21 S L B ls2 bs2 U2 ∧ U2.length ≤ 18 + (i2 + 1) ∧ bs2[jn]? = some b2 ∧ b2.p = bJ.p, ?_, ?_⟩
      · refine ⟨_, rfl, S, 3, rfl, by decide, by decide, t20.sr, fun r c4 st4 n4 r0 r1 => ⟨rfl, _, rfl, ite2 (fun hp => ?_) (fun hp => ?_)⟩⟩
        · have t21 := t20.take c4 st4 n4
          refine ⟨_, rfl, S, rfl, t21.sr, fun v c5 st5 n5 fitv => ?_⟩
          have t22 := t21.take c5 st5 n5
          generalize upd (upd H20 S (src c4 st4 n4)) S (src c5 st5 n5) = H22 at t22 ⊢
          have oJ22 := t22.ok _ mJ'
          obtain ⟨⟨dy2, ob2⟩, dc2⟩ := id oJ22.bag
          have few2 := t22.few mJ'
          have few2a : ks.length ≤ U.length := few2.1
          have few2b : zs.length ≤ U.length := few2.2
          refine ⟨_, rfl, bJ.p, dy2, _, rfl, ob2, bl_no _ _ (by decide +kernel) (by decide +kernel), _, rfl, bJ.p, bJ.d, bJ.sh, ks, v, rfl, oJ22.bag, fitv, by omega, ?_⟩
          have npd : bJ.p ≠ bJ.d := ne_of ob2 dc2 (by intro z; cases z)
          have B23 : BagAt C (upd H22 bJ.d (.dK (kv (ins ks v)))) bJ.p bJ.d bJ.sh (ins ks v) := ⟨⟨dy2, by rw [upd_ne npd]; exact ob2⟩, upd_same⟩
          have g23 : But (· = bJ.d) H22 (upd H22 bJ.d (.dK (kv (ins ks v)))) := But.at rfl
          generalize upd H22 bJ.d (.dK (kv (ins ks v))) = H23 at B23 g23 ⊢
          obtain ⟨l2, f2, m2, d2, w2⟩ := t22.due eJ'
          have nJ : ∀ {y : Addr} {vs : List V}, H22 y = some (.lst vs) → ¬ y = bJ.d := fun {y vs} h e => by
            rw [e] at h
            have dc2' : H22 bJ.d = some (.dK (kv ks)) := dc2
            rw [dc2'] at h
            cases h
          have L23 := g23 _ _ t22.dl (nJ t22.dl)
          have l23 := g23 _ _ d2 (nJ d2)
          -- dues[j] = sorted(set(dues[j] + [v]))
          refine ⟨_, rfl, _, rfl, L, _, _, _, rfl, rfl, SqL.of L23, atI_nat w2, _, rfl, szle (by simp), fun q5 hq5 => ?_⟩
          have n25 : l2 ≠ q5 := ne_of_none l23 hq5
          refine ⟨l2, q5, _, _, rfl, rfl, by rw [upd_ne n25]; exact l23, upd_same, by simp only [List.length_map, List.length_singleton]; exact szle (by omega), fun q6 hq6 => ?_⟩
          obtain ⟨ys, upY, memY⟩ := ex_rise (zs ++ [v])
          dsimp only [tNil]
          have s24 : (upd (upd H23 q5 (.lst [.int v])) q6 (.lst (zs.map V.int ++ [.int v]))) q6 = some (.lst ((zs ++ [v]).map V.int)) := by rw [upd_same, List.map_append]; rfl
          have g24 : But (fun _ => False) H23 (upd (upd H23 q5 (.lst [.int v])) q6 (.lst (zs.map V.int ++ [.int v]))) := (But.new hq5).trans (But.new hq6)
          refine set_sorted (K := K) (w := w) (ns := zs ++ [v]) (xs := ys) (SqL.of s24) (by rw [List.length_append, List.length_singleton]; omega) upY (fun y => (memY y).symm) fun q7 H25 hq7 hq7' g25 => ?_
          have g2325 := g24.trans g25
          have jl : jn < (ls'.map V.ref).length := (List.getElem?_eq_some_iff.mp w2).1
          refine ⟨_, rfl, _, rfl, L, _, _, jn, rfl, rfl, g2325 _ _ L23 id, Evl.ixN_nat jl, ?_⟩
          rw [← List.map_set]
          have hq722 : H22 q7 = none := by
            cases e : H22 q7 with
            | none => rfl
            | some o =>
              have e23 : H23 q7 ≠ none := by
                by_cases eq : q7 = bJ.d
                · obtain ⟨_, dc23⟩ := B23
                  rw [eq, dc23]
                  simp
                · rw [g23 _ _ e eq]
                  simp
              cases e2 : H23 q7 with
              | none => exact absurd e2 e23
              | some o2 => rw [g24 _ _ e2 id] at hq7; cases hq7
          have t26 := t22.change (V' := v :: U) eJ' (B23.grow g2325) (g23.trans (g2325.mono fun _ h => h.elim)) hq722 hq7' (ins_nd nd14 v) upY
            (fun y => by rw [ins_mem, mem14 y, ← memY y, List.mem_append, List.mem_singleton]) (fun n hn => ((ins_mem ks v n).1 hn).elim (fit14 n) fun e => e ▸ fitv)
            (fun y hy => by
              rcases List.mem_append.mp ((memY y).2 hy) with h | h
              · exact List.mem_cons_of_mem _ (subZ y h)
              · rw [List.mem_singleton.mp h]
                exact List.mem_cons_self) (fun y hy => List.mem_cons_of_mem _ hy)
          refine ⟨_, _, _, _, _, rfl, t26, ?_, List.getElem?_set_self (List.getElem?_eq_some_iff.mp eJ').1, rfl⟩
          rw [List.length_cons]
          omega
        · exact ⟨_, _, _, _, _, rfl, t20.take _ _ _, by omega, eJ', rfl⟩
      rintro σ H21 ⟨z14, ls2, bs2, U2, b2, rfl, t21, hU2, e2, ep2⟩
      -- one.told() != dues[j] or all_told(bags) != dues
      have o2 := t21.ok _ (List.mem_of_getElem? e2)
      obtain ⟨⟨dy2, ob2⟩, dc2⟩ := id o2.bag
      rw [ep2] at ob2
      refine ⟨_, rfl, bJ.p, dy2, _, rfl, ob2, bl_no _ _ (by decide +kernel) (by decide +kernel), bJ.p, b2.d, b2.sh, b2.ks, b2.xs, rfl, ep2 ▸ o2.bag, o2.nd, o2.up, o2.same, fun q8 H27 hq8 hq8' g27 => ?_⟩
      have t27 := t21.grow g27
      obtain ⟨l2, f2, m2, d2, w2⟩ := t27.due e2
      refine ⟨_, rfl, _, rfl, L, _, _, _, rfl, rfl, SqL.of t27.dl, atI_nat w2, ne_ints (xs := b2.xs) (SqL.of hq8') (SqL.of d2) ⟨_, rfl, iteF ?_⟩⟩
      refine ⟨_, rfl, B, bs2, rfl, t27.bl, by rw [t27.blen]; decide, t27.ok, fun q9 ms H28 hq hq' hms hmb g28 => ⟨_, rfl, (t27.grow g28).ne hq' hms hmb ⟨_, rfl, iteF ?_⟩⟩⟩
      exact ⟨⟨_, _, _, _, _, _, _, _, _, _, _, rfl⟩, _, _, _, t27.grow g28, hU2⟩
    · rintro σ H5 ⟨⟨x1, x4, x6, x7, x8, x9, x10, x11, x12, x13, x14, rfl⟩, ls, bs, U, t, hU⟩
      obtain ⟨b0, e0, m0, o0, v0⟩ := t.bag (j := 0) (by omega)
      obtain ⟨b1, e1, m1, o1, v1⟩ := t.bag (j := 1) (by omega)
      obtain ⟨b2, e2, m2, o2, v2⟩ := t.bag (j := 2) (by omega)
      obtain ⟨l0, f0, g0, d0, w0⟩ := t.due e0
      obtain ⟨⟨dx0, ob0⟩, dc0⟩ := id o0.bag
      obtain ⟨⟨dx1, ob1⟩, dc1⟩ := id o1.bag
      obtain ⟨⟨dx2, ob2⟩, dc2⟩ := id o2.bag
      have n01 : ¬ b0.p = b1.p := (t.ap 0 1 b0 b1 e0 e1 (by decide)).2
      have n12 : ¬ b1.p = b2.p := (t.ap 1 2 b1 b2 e1 e2 (by decide)).2
      have a0 : atI (bs.map fun b => V.ref b.p) 0 = some (V.ref b0.p) := atI_nat (j := 0) v0
      have a1 : atI (bs.map fun b => V.ref b.p) 1 = some (V.ref b1.p) := atI_nat (j := 1) v1
      have a2 : atI (bs.map fun b => V.ref b.p) 2 = some (V.ref b2.p) := atI_nat (j := 2) v2
      have aL : atI (ls.map V.ref) 0 = some (V.ref l0) := atI_nat (j := 0) w0
      refine ⟨_, rfl, B, _, _, _, rfl, rfl, SqL.of t.bl, a0, _, rfl, B, _, _, _, rfl, rfl, SqL.of t.bl, a1, _, _, _, _, _, _, rfl, rfl, ob0, ob1, _, rfl, ?_⟩
      rw [decide_eq_false n01]
      refine iteF ⟨_, rfl, B, _, _, _, rfl, rfl, SqL.of t.bl, a1, _, rfl, B, _, _, _, rfl, rfl, SqL.of t.bl, a2, _, _, _, _, _, _, rfl, rfl, ob1, ob2, _, rfl, ?_⟩
      rw [decide_eq_false n12]
      refine iteF ⟨_, rfl, B, _, _, _, rfl, rfl, SqL.of t.bl, a0, _, rfl, L, _, _, _, rfl, rfl, SqL.of t.dl, aL, _, _, _, _, _, rfl, rfl, ob0, d0, _, rfl, iteF ?_⟩
      refine ⟨_, rfl, B, _, _, _, rfl, rfl, SqL.of t.bl, a0, _, rfl, B, _, _, _, rfl, rfl, SqL.of t.bl, a0, _, _, _, _, _, _, rfl, rfl, ob0, ob0, _, rfl, ?_⟩
      rw [decide_eq_true (rfl : b0.p = b0.p)]
      refine iteF ?_
      refine ⟨_, rfl, B, _, _, _, rfl, rfl, SqL.of t.bl, a0, _, rfl, B, _, _, _, rfl, rfl, SqL.of t.bl, a0, _, _, _, _, _, _, rfl, rfl, ob0, ob0, _, rfl, ?_⟩
      rw [decide_eq_true (rfl : b0.p = b0.p)]
      refine iteF ⟨_, rfl, B, _, _, _, rfl, rfl, SqL.of t.bl, a0, _, rfl, L, _, _, _, rfl, rfl, SqL.of t.dl, aL, fun x dx hx hdx ne => ?_⟩
      have few0 := (t.few m0).2
      refine make_one (sh := false) (SqL.of d0) (fun n hn => o0.fit n ((o0.same n).2 hn)) (by omega) hx hdx ne fun d H6 hd Bx g6 => ?_
      obtain ⟨⟨dxx, obx⟩, dcx⟩ := Bx
      have n0x : ¬ b0.p = x := ne_of_none ob0 hx
      refine ⟨_, _, _, _, _, _, rfl, rfl, g6 _ _ ob0 id, obx, _, rfl, ?_⟩
      rw [decide_eq_false n0x]
      refine iteF ?_
      exact ⟨g1.trans (t.fr.trans g6), _, _, _, _, _, _, _, _, _, _, _, _, _, _, rfl⟩
end
end K10

set_option Elab.async false
set_option linter.all false
set_option maxRecDepth 100000
set_option maxHeartbeats 8000000
namespace K10
open PySem L2 L2.G42
theorem all_mk {l : PySem.W.OpenLaw} {w : World} {K : PySem.W.Frag} {h : Heap} {mg : Str → Option Value} {fa C et : Addr} (X : K.In h) (G : h.Ns mainGlobals mg) (hfa : mg "law" = some (.ref fa))
    {fIsNum fIsVal fInit fTold fAdd fClear fIor fIsub fOr fSub fSource fTake fValue fValues fDue fAll fLaw dTInit dDInit : Addr} {odIsNum anIsNum odIsVal anIsVal odInit anInit odTold anTold odAdd anAdd odClear anClear odIor anIor odIsub anIsub odOr anOr odSub anSub odSource anSource odTake anTake odValue anValue odValues anValues odDue anDue odAll anAll odLaw anLaw : Option Addr} {slIsNum slIsVal slInit slTold slAdd slClear slIor slIsub slOr slSub slSource slTake slValue slValues slDue slAll slLaw : Array (Option Value)} {ocIsNum dcIsNum pmIsNum cdIsNum ctIsNum kVIsNum ocIsVal dcIsVal pmIsVal cdIsVal ctIsVal kVIsVal ocInit dcInit pmInit cdInit ctInit ocTold dcTold pmTold cdTold ctTold kVTold ocAdd dcAdd pmAdd cdAdd ctAdd kVAdd ocClear dcClear pmClear cdClear ctClear kVClear ocIor dcIor pmIor cdIor ctIor kVIor ocIsub dcIsub pmIsub cdIsub ctIsub kVIsub ocOr dcOr pmOr cdOr ctOr kVOr ocSub dcSub pmSub cdSub ctSub kVSub ocSource dcSource pmSource cdSource ctSource kVSource ocTake dcTake pmTake cdTake ctTake kVTake ocValue dcValue pmValue cdValue ctValue kVValue ocValues dcValues pmValues cdValues ctValues kVValues ocDue dcDue pmDue cdDue ctDue kVDue ocAll dcAll pmAll cdAll ctAll kVAll ocLaw dcLaw pmLaw cdLaw ctLaw kVLaw : Value} {oT : Value} {oTd : Option Addr} {nT : Nat} {slT : Array (Option Value)} {tg : Tok}
    (aC : PySem.W.nsIn K mainGlobals "Bag" = some (some (.ref C)))
    (aIsNum : PySem.W.nsIn K mainGlobals "is_number" = some (some (.ref fIsNum)))
    (lIsNum : K.lookup fIsNum = some ⟨ocIsNum, odIsNum, .func (PySem.W.fnOf "is_number" "is_number" (defArgs sIsNum) (defBody sIsNum) (defScope sIsNum) .none kVIsNum dcIsNum pmIsNum anIsNum cdIsNum ctIsNum), slIsNum⟩) (cIsNum : PySem.W.codeIn K cdIsNum "is_number" = true) (kIsNum : PySem.W.keepIn K (.ref fIsNum) = true)
    (aIsVal : PySem.W.nsIn K mainGlobals "is_value" = some (some (.ref fIsVal)))
    (lIsVal : K.lookup fIsVal = some ⟨ocIsVal, odIsVal, .func (PySem.W.fnOf "is_value" "is_value" (defArgs sIsVal) (defBody sIsVal) (defScope sIsVal) .none kVIsVal dcIsVal pmIsVal anIsVal cdIsVal ctIsVal), slIsVal⟩) (cIsVal : PySem.W.codeIn K cdIsVal "is_value" = true) (kIsVal : PySem.W.keepIn K (.ref fIsVal) = true)
    (aInit : PySem.W.findIn K (.ref C) "__init__" = some (some (.ref fInit))) (iInit : PySem.W.isFn K (.ref fInit) = true)
    (lInit : K.lookup fInit = some ⟨ocInit, odInit, .func (PySem.W.fnOf "__init__" "Bag.__init__" (defArgs sInit) (defBody sInit) (defScope sInit) (.ref dTInit) (.ref dDInit) dcInit pmInit anInit cdInit ctInit), slInit⟩) (cInit : PySem.W.codeIn K cdInit "Bag.__init__" = true) (kInit : PySem.W.keepIn K (.ref fInit) = true)
    (aTold : PySem.W.findIn K (.ref C) "told" = some (some (.ref fTold))) (iTold : PySem.W.isFn K (.ref fTold) = true)
    (lTold : K.lookup fTold = some ⟨ocTold, odTold, .func (PySem.W.fnOf "told" "Bag.told" (defArgs sTold) (defBody sTold) (defScope sTold) .none kVTold dcTold pmTold anTold cdTold ctTold), slTold⟩) (cTold : PySem.W.codeIn K cdTold "Bag.told" = true) (kTold : PySem.W.keepIn K (.ref fTold) = true)
    (aAdd : PySem.W.findIn K (.ref C) "add" = some (some (.ref fAdd))) (iAdd : PySem.W.isFn K (.ref fAdd) = true)
    (lAdd : K.lookup fAdd = some ⟨ocAdd, odAdd, .func (PySem.W.fnOf "add" "Bag.add" (defArgs sAdd) (defBody sAdd) (defScope sAdd) .none kVAdd dcAdd pmAdd anAdd cdAdd ctAdd), slAdd⟩) (cAdd : PySem.W.codeIn K cdAdd "Bag.add" = true) (kAdd : PySem.W.keepIn K (.ref fAdd) = true)
    (aClear : PySem.W.findIn K (.ref C) "clear" = some (some (.ref fClear))) (iClear : PySem.W.isFn K (.ref fClear) = true)
    (lClear : K.lookup fClear = some ⟨ocClear, odClear, .func (PySem.W.fnOf "clear" "Bag.clear" (defArgs sClear) (defBody sClear) (defScope sClear) .none kVClear dcClear pmClear anClear cdClear ctClear), slClear⟩) (cClear : PySem.W.codeIn K cdClear "Bag.clear" = true) (kClear : PySem.W.keepIn K (.ref fClear) = true)
    (aIor : PySem.W.findIn K (.ref C) "__ior__" = some (some (.ref fIor))) (iIor : PySem.W.isFn K (.ref fIor) = true)
    (lIor : K.lookup fIor = some ⟨ocIor, odIor, .func (PySem.W.fnOf "__ior__" "Bag.__ior__" (defArgs sIor) (defBody sIor) (defScope sIor) .none kVIor dcIor pmIor anIor cdIor ctIor), slIor⟩) (cIor : PySem.W.codeIn K cdIor "Bag.__ior__" = true) (kIor : PySem.W.keepIn K (.ref fIor) = true)
    (aIsub : PySem.W.findIn K (.ref C) "__isub__" = some (some (.ref fIsub))) (iIsub : PySem.W.isFn K (.ref fIsub) = true)
    (lIsub : K.lookup fIsub = some ⟨ocIsub, odIsub, .func (PySem.W.fnOf "__isub__" "Bag.__isub__" (defArgs sIsub) (defBody sIsub) (defScope sIsub) .none kVIsub dcIsub pmIsub anIsub cdIsub ctIsub), slIsub⟩) (cIsub : PySem.W.codeIn K cdIsub "Bag.__isub__" = true) (kIsub : PySem.W.keepIn K (.ref fIsub) = true)
    (aOr : PySem.W.findIn K (.ref C) "__or__" = some (some (.ref fOr))) (iOr : PySem.W.isFn K (.ref fOr) = true)
    (lOr : K.lookup fOr = some ⟨ocOr, odOr, .func (PySem.W.fnOf "__or__" "Bag.__or__" (defArgs sOr) (defBody sOr) (defScope sOr) .none kVOr dcOr pmOr anOr cdOr ctOr), slOr⟩) (cOr : PySem.W.codeIn K cdOr "Bag.__or__" = true) (kOr : PySem.W.keepIn K (.ref fOr) = true)
    (aSub : PySem.W.findIn K (.ref C) "__sub__" = some (some (.ref fSub))) (iSub : PySem.W.isFn K (.ref fSub) = true)
    (lSub : K.lookup fSub = some ⟨ocSub, odSub, .func (PySem.W.fnOf "__sub__" "Bag.__sub__" (defArgs sSub) (defBody sSub) (defScope sSub) .none kVSub dcSub pmSub anSub cdSub ctSub), slSub⟩) (cSub : PySem.W.codeIn K cdSub "Bag.__sub__" = true) (kSub : PySem.W.keepIn K (.ref fSub) = true)
    (aSource : PySem.W.nsIn K mainGlobals "_law_source" = some (some (.ref fSource)))
    (lSource : K.lookup fSource = some ⟨ocSource, odSource, .func (PySem.W.fnOf "_law_source" "_law_source" (defArgs sSource) (defBody sSource) (defScope sSource) .none kVSource dcSource pmSource anSource cdSource ctSource), slSource⟩) (cSource : PySem.W.codeIn K cdSource "_law_source" = true) (kSource : PySem.W.keepIn K (.ref fSource) = true)
    (aTake : PySem.W.nsIn K mainGlobals "_law_take" = some (some (.ref fTake)))
    (lTake : K.lookup fTake = some ⟨ocTake, odTake, .func (PySem.W.fnOf "_law_take" "_law_take" (defArgs sTake) (defBody sTake) (defScope sTake) .none kVTake dcTake pmTake anTake cdTake ctTake), slTake⟩) (cTake : PySem.W.codeIn K cdTake "_law_take" = true) (kTake : PySem.W.keepIn K (.ref fTake) = true)
    (aValue : PySem.W.nsIn K mainGlobals "_law_value" = some (some (.ref fValue)))
    (lValue : K.lookup fValue = some ⟨ocValue, odValue, .func (PySem.W.fnOf "_law_value" "_law_value" (defArgs sValue) (defBody sValue) (defScope sValue) .none kVValue dcValue pmValue anValue cdValue ctValue), slValue⟩) (cValue : PySem.W.codeIn K cdValue "_law_value" = true) (kValue : PySem.W.keepIn K (.ref fValue) = true)
    (aValues : PySem.W.nsIn K mainGlobals "_law_values" = some (some (.ref fValues)))
    (lValues : K.lookup fValues = some ⟨ocValues, odValues, .func (PySem.W.fnOf "_law_values" "_law_values" (defArgs sValues) (defBody sValues) (defScope sValues) .none kVValues dcValues pmValues anValues cdValues ctValues), slValues⟩) (cValues : PySem.W.codeIn K cdValues "_law_values" = true) (kValues : PySem.W.keepIn K (.ref fValues) = true)
    (aDue : PySem.W.nsIn K mainGlobals "_law_due" = some (some (.ref fDue)))
    (lDue : K.lookup fDue = some ⟨ocDue, odDue, .func (PySem.W.fnOf "_law_due" "_law_due" (defArgs sDue) (defBody sDue) (defScope sDue) .none kVDue dcDue pmDue anDue cdDue ctDue), slDue⟩) (cDue : PySem.W.codeIn K cdDue "_law_due" = true) (kDue : PySem.W.keepIn K (.ref fDue) = true)
    (aAll : PySem.W.nsIn K mainGlobals "_law_all_told" = some (some (.ref fAll)))
    (lAll : K.lookup fAll = some ⟨ocAll, odAll, .func (PySem.W.fnOf "_law_all_told" "_law_all_told" (defArgs sAll) (defBody sAll) (defScope sAll) .none kVAll dcAll pmAll anAll cdAll ctAll), slAll⟩) (cAll : PySem.W.codeIn K cdAll "_law_all_told" = true) (kAll : PySem.W.keepIn K (.ref fAll) = true)
    (aLaw : PySem.W.nsIn K mainGlobals "law" = some (some (.ref fLaw)))
    (lLaw : K.lookup fLaw = some ⟨ocLaw, odLaw, .func (PySem.W.fnOf "law" "law" (defArgs sLaw) (defBody sLaw) (defScope sLaw) .none kVLaw dcLaw pmLaw anLaw cdLaw ctLaw), slLaw⟩) (cLaw : PySem.W.codeIn K cdLaw "law" = true) (kLaw : PySem.W.keepIn K (.ref fLaw) = true)
    (pg : PySem.W.plainGet K C Str.empty = true)
    (hd : PySem.W.hasDictIn K C = true)
    (po : PySem.W.plainOver K C = true)
    (sa : PySem.W.findIn K (.ref C) "__setattr__" = some (some (.builtin "object.__setattr__")))
    (mk : PySem.W.makesIn K C = true)
    (kc : PySem.W.keepIn K (.ref C) = true)
    (nI : PySem.W.findIn K (.ref C) "inside" = some none)
    (nS : PySem.W.findIn K (.ref C) "shared" = some none)
    (sf : PySem.W.selfFirst K C = true)
    (qe : PySem.W.findIn K (.ref C) "__eq__" = some (some (.builtin "object.__eq__")))
    (qn : PySem.W.findIn K (.ref C) "__ne__" = some (some (.builtin "object.__ne__")))
    (ob : PySem.W.mroIn K C (.type "object") = some true)
    (mL : PySem.W.mroIn K C (.type "list") = some false)
    (sL : PySem.W.subIn K (.type "list") (.ref C) = some false)
    (gr : PySem.W.nsIn K mainGlobals "GREATEST" = some (some (.int 1000000000000000000000000000000 tg)))
    (lT : K.lookup dTInit = some ⟨oT, oTd, .seq #[.ref et] nT, slT⟩)
    (kD : PySem.W.nsIn K dDInit "shared" = some (some (.bool false)))
    (z_isinstance : PySem.W.nsIn K mainGlobals "isinstance" = some none)
    (z_int : PySem.W.nsIn K mainGlobals "int" = some none)
    (z_bool : PySem.W.nsIn K mainGlobals "bool" = some none)
    (z_list : PySem.W.nsIn K mainGlobals "list" = some none)
    (z_sorted : PySem.W.nsIn K mainGlobals "sorted" = some none)
    (z_len : PySem.W.nsIn K mainGlobals "len" = some none)
    (z_set : PySem.W.nsIn K mainGlobals "set" = some none)
    (z_range : PySem.W.nsIn K mainGlobals "range" = some none)
    (z_enumerate : PySem.W.nsIn K mainGlobals "enumerate" = some none)
    (z_max : PySem.W.nsIn K mainGlobals "max" = some none)
    (z_min : PySem.W.nsIn K mainGlobals "min" = some none)
    (z_abs : PySem.W.nsIn K mainGlobals "abs" = some none)
    (z_any : PySem.W.nsIn K mainGlobals "any" = some none)
    : ∃ fd : FuncData, (∀ (s : Shared) (v : Value), BindsTo s fd ⟨[v], []⟩ [("_law_script", v)]) ∧ ∀ base : Heap, K.In base → base.Ns mainGlobals mg → FnOk l.prog w K mg base CX0 6 fa fd ["_law_script"] (spLaw K) := by
  have e := hfa.symm.trans (PySem.W.mg_of X G aLaw)
  cases e
  have ten : (1000000000000000000000000000000 : Int) = 10 ^ 30 := by decide
  have gr' : mg "GREATEST" = some (.int (10 ^ 30) tg) := by
    rw [← ten]
    exact PySem.W.mg_of X G gr
  have T : Txt K mg C := ⟨⟨pg, hd, po, sa⟩, nI, nS, PySem.W.mg_of X G aC, PySem.W.mg_none_of X G z_isinstance, PySem.W.mg_none_of X G z_int, PySem.W.mg_none_of X G z_bool, PySem.W.mg_none_of X G z_list, PySem.W.mg_none_of X G z_sorted, PySem.W.mg_none_of X G z_len, PySem.W.mg_none_of X G z_set, PySem.W.mg_none_of X G z_range, PySem.W.mg_none_of X G z_enumerate, PySem.W.mg_none_of X G z_max, PySem.W.mg_none_of X G z_min, PySem.W.mg_none_of X G z_abs, PySem.W.mg_none_of X G z_any, ⟨tg, gr'⟩⟩
  have FIsNum := fun_mk (st := sIsNum) lIsNum cIsNum kIsNum
  have FIsVal := fun_mk (st := sIsVal) lIsVal cIsVal kIsVal
  have FTold := fun_mk (st := sTold) lTold cTold kTold
  have FAdd := fun_mk (st := sAdd) lAdd cAdd kAdd
  have FClear := fun_mk (st := sClear) lClear cClear kClear
  have FIor := fun_mk (st := sIor) lIor cIor kIor
  have FIsub := fun_mk (st := sIsub) lIsub cIsub kIsub
  have FOr := fun_mk (st := sOr) lOr cOr kOr
  have FSub := fun_mk (st := sSub) lSub cSub kSub
  have FSource := fun_mk (st := sSource) lSource cSource kSource
  have FTake := fun_mk (st := sTake) lTake cTake kTake
  have FValue := fun_mk (st := sValue) lValue cValue kValue
  have FValues := fun_mk (st := sValues) lValues cValues kValues
  have FDue := fun_mk (st := sDue) lDue cDue kDue
  have FAll := fun_mk (st := sAll) lAll cAll kAll
  have FLaw := fun_mk (st := sLaw) lLaw cLaw kLaw
  have FInit : FunD K "__init__" "Bag.__init__" (defArgs sInit) (defBody sInit) (defScope sInit) [.ref et] [("shared", .bl false)] fInit _ :=
    ⟨⟨ocInit, odInit, _, _, _, _, _, _, _, slInit, rfl, lInit, cInit, .inr ⟨by simp, dTInit, _, [.ref et], nT, rfl, lT, rfl, .cons rfl .nil⟩, .inr ⟨dDInit, rfl, fun q hq => by
      rw [List.mem_singleton.mp hq]
      exact ⟨_, kD, rfl⟩⟩⟩, kInit⟩
  obtain ⟨dsI, vI, bI⟩ := FInit.binds (ps := ["self", "values", "shared"]) 2 1 (by simp) rfl (fun T D doc pm an cdv ct us its ks h1 h2 h3 => match us, h1, its, h2, ks, h3 with
    | [_, _], _, [_], _, [_], _ => ⟨_, rfl, ⟨_, _, _, _, _, _, rfl, rfl, rfl⟩⟩) (by simp)
  obtain ⟨itsI, kbI⟩ := FInit.kbindsD (ps := ["self", "values", "shared"]) 2 ["shared"] (fun us _ ws => us ++ ws) (by simp) (fun r1 _ r3 => r1.append r3) (fun T kV doc pm an cdv ct us its ws h1 h2 h3 => match us, h1, its, h2, ws, h3 with
    | [_, _], _, [_], _, [_], _ => ⟨_, rfl, rfl⟩)
  have bIsNum := FIsNum.binds (ps := ["thing"]) fun _ _ _ _ _ _ us hl => match us, hl with | [_], _ => rfl
  have bIsVal := FIsVal.binds (ps := ["thing"]) fun _ _ _ _ _ _ us hl => match us, hl with | [_], _ => rfl
  have bTold := FTold.binds (ps := ["self"]) fun _ _ _ _ _ _ us hl => match us, hl with | [_], _ => rfl
  have bAdd := FAdd.binds (ps := ["self", "value"]) fun _ _ _ _ _ _ us hl => match us, hl with | [_, _], _ => rfl
  have bClear := FClear.binds (ps := ["self"]) fun _ _ _ _ _ _ us hl => match us, hl with | [_], _ => rfl
  have bIor := FIor.binds (ps := ["self", "other"]) fun _ _ _ _ _ _ us hl => match us, hl with | [_, _], _ => rfl
  have bIsub := FIsub.binds (ps := ["self", "other"]) fun _ _ _ _ _ _ us hl => match us, hl with | [_, _], _ => rfl
  have bOr := FOr.binds (ps := ["self", "other"]) fun _ _ _ _ _ _ us hl => match us, hl with | [_, _], _ => rfl
  have bSub := FSub.binds (ps := ["self", "other"]) fun _ _ _ _ _ _ us hl => match us, hl with | [_, _], _ => rfl
  have bSource := FSource.binds (ps := ["_law_script", "_law_at"]) fun _ _ _ _ _ _ us hl => match us, hl with | [_, _], _ => rfl
  have bTake := FTake.binds (ps := ["_law_source_here", "_law_many"]) fun _ _ _ _ _ _ us hl => match us, hl with | [_, _], _ => rfl
  have bValue := FValue.binds (ps := ["_law_source_here"]) fun _ _ _ _ _ _ us hl => match us, hl with | [_], _ => rfl
  have bValues := FValues.binds (ps := ["_law_source_here", "_law_most"]) fun _ _ _ _ _ _ us hl => match us, hl with | [_, _], _ => rfl
  have bDue := FDue.binds (ps := ["_law_left", "_law_right", "_law_is_put"]) fun _ _ _ _ _ _ us hl => match us, hl with | [_, _, _], _ => rfl
  have bAll := FAll.binds (ps := ["_law_bags"]) fun _ _ _ _ _ _ us hl => match us, hl with | [_], _ => rfl
  refine ⟨_, fun s v => .of_eq rfl, fun base _ _ => ok_law FLaw T ?_⟩
  have V0 : IsV l.prog w K mg base := ⟨_, _, ok_isVal FIsVal T (ok_isNum FIsNum T) (PySem.W.mg_of X G aIsNum) kIsNum bIsNum, PySem.W.mg_of X G aIsVal, kIsVal, bIsVal⟩
  have OI : FnOk l.prog w K mg base CX0 3 fInit _ ["self", "values", "shared"] (spInit K C) := ok_init FInit T V0
  have MI : Mk K C fInit := ⟨mk, aInit, iInit, kc⟩
  have MB : MkB l.prog w K mg base C := ⟨fInit, _, dsI, MI, OI, vI, bI⟩
  have cTake : Cl l.prog w K mg base 1 "_law_take" spTake [] := ⟨_, _, _, _, ok_take FTake T, PySem.W.mg_of X G aTake, kTake, bTake, .nil⟩
  have cValue : Cl l.prog w K mg base 2 "_law_value" spValue [] := ⟨_, _, _, _, ok_value FValue cTake, PySem.W.mg_of X G aValue, kValue, bValue, .nil⟩
  have mTold : Mt l.prog w K mg base 1 C "told" (spTold C) [] := ⟨_, _, _, _, T.cl, ⟨aTold, iTold, kTold⟩, ok_told FTold T, bTold, .nil⟩
  exact {
    source := ⟨_, _, _, _, ok_source FSource T, PySem.W.mg_of X G aSource, kSource, bSource, .nil⟩
    take := cTake
    value := cValue
    values := ⟨_, _, _, _, ok_values FValues T cTake cValue, PySem.W.mg_of X G aValues, kValues, bValues, .nil⟩
    due := ⟨_, _, _, _, ok_due FDue T, PySem.W.mg_of X G aDue, kDue, bDue, .nil⟩
    all := ⟨_, _, _, _, ok_all FAll T mTold, PySem.W.mg_of X G aAll, kAll, bAll, .nil⟩
    told := mTold
    add := ⟨_, _, _, _, T.cl, ⟨aAdd, iAdd, kAdd⟩, ok_add FAdd T V0, bAdd, .nil⟩
    clear := ⟨_, _, _, _, T.cl, ⟨aClear, iClear, kClear⟩, ok_clear FClear T, bClear, .nil⟩
    bag := ⟨fInit, _, _, dsI, MI, OI, T.mgC, bI, vI⟩
    bagS := ⟨fInit, _, MI, OI, kbI⟩
    or := ⟨_, _, _, ok_or FOr T MB, aOr, iOr, sf, bOr⟩
    sub := ⟨_, _, _, ok_sub FSub T MB, aSub, iSub, sf, bSub⟩
    ior := ⟨_, _, _, ok_ior FIor T, aIor, iIor, sf, bIor⟩
    isub := ⟨_, _, _, ok_isub FIsub T, aIsub, iIsub, sf, bIsub⟩
    plain := ⟨qe, qn, ob⟩
    sL := sL
    mL := mL }
theorem walk {l : PySem.W.OpenLaw} {q : Program} {loose : List Str} {XP : (Str → Option Value) → Heap → Prop} {YP : World → Heap → Prop} {d : DefRec} {K : Params → PySem.W.Frag} (hn : l.most = some 63) (hdf : d.params.defaults = [])
    (hY : ∀ (w : World) (h : Heap), YP w h → (K w.params).In h)
    (F : ∀ (w : World) (mg : Str → Option Value) (fa : Addr) (h : Heap), (K w.params).In h → h.Ns mainGlobals mg → mg d.name = some (.ref fa) →
      ∃ fd : FuncData, (∀ (s : Shared) (u : Value), BindsTo s fd ⟨[u], []⟩ [("_law_script", u)]) ∧ ∀ base : Heap, (K w.params).In base → base.Ns mainGlobals mg → FnOk l.prog w (K w.params) mg base CX0 6 fa fd ["_law_script"] (spLaw (K w.params))) :
    PySem.W.WalkO q loose XP YP l.row.toRowW d [] (fun f vs => PySem.call f vs) :=
  L2.walk_of (n := 63) (k := 6) (x := "_law_script") (CX := fun _ => CX0) (sp := fun w => spLaw (K w.params)) hn (by decide) hdf ⟨rfl, by decide, by decide⟩ hY F (fun _ _ a ns hl _ hS => ⟨a, ns, rfl, hS, hl, fun _ => rfl⟩) fun _ _ _ _ _ z => z
end K10
open PySem PySem.W PyProof.Rows
set_option maxRecDepth 100000 in
set_option maxHeartbeats 0 in
theorem PySem.Challenge.cw_nestedwrites_k10_bags_by_operators_holds : PySem.Challenge.rw_nestedwrites_k10_bags_by_operators.Holds := by
  w_on; o_law; k_head; (case hw => w_witness2)
  k_fill
  refine K10.walk (l := PySem.Challenge.rw_nestedwrites_k10_bags_by_operators) rfl rfl (fun w h Y => PySem.W.kIn_of Y) ?F
  case F =>
    intro w mg fa h KX G hmg
    refine' K10.all_mk KX G hmg ?aC ?aIsNum ?lIsNum ?cIsNum ?kIsNum ?aIsVal ?lIsVal ?cIsVal ?kIsVal ?aInit ?iInit ?lInit ?cInit ?kInit ?aTold ?iTold ?lTold ?cTold ?kTold ?aAdd ?iAdd ?lAdd ?cAdd ?kAdd ?aClear ?iClear ?lClear ?cClear ?kClear ?aIor ?iIor ?lIor ?cIor ?kIor ?aIsub ?iIsub ?lIsub ?cIsub ?kIsub ?aOr ?iOr ?lOr ?cOr ?kOr ?aSub ?iSub ?lSub ?cSub ?kSub ?aSource ?lSource ?cSource ?kSource ?aTake ?lTake ?cTake ?kTake ?aValue ?lValue ?cValue ?kValue ?aValues ?lValues ?cValues ?kValues ?aDue ?lDue ?cDue ?kDue ?aAll ?lAll ?cAll ?kAll ?aLaw ?lLaw ?cLaw ?kLaw ?pg ?hd ?po ?sa ?mk ?kc ?nI ?nS ?sf ?qe ?qn ?ob ?mL ?sL ?gr ?lT ?kD ?z_isinstance ?z_int ?z_bool ?z_list ?z_sorted ?z_len ?z_set ?z_range ?z_enumerate ?z_max ?z_min ?z_abs ?z_any
    (case aC => k_is)
    (case aIsNum => k_is)
    (case lIsNum => k_is)
    (case cIsNum => k_is)
    (case kIsNum => k_is)
    (case aIsVal => k_is)
    (case lIsVal => k_is)
    (case cIsVal => k_is)
    (case kIsVal => k_is)
    (case aInit => k_is)
    (case iInit => k_is)
    (case lInit => k_is)
    (case cInit => k_is)
    (case kInit => k_is)
    (case aTold => k_is)
    (case iTold => k_is)
    (case lTold => k_is)
    (case cTold => k_is)
    (case kTold => k_is)
    (case aAdd => k_is)
    (case iAdd => k_is)
    (case lAdd => k_is)
    (case cAdd => k_is)
    (case kAdd => k_is)
    (case aClear => k_is)
    (case iClear => k_is)
    (case lClear => k_is)
    (case cClear => k_is)
    (case kClear => k_is)
    (case aIor => k_is)
    (case iIor => k_is)
    (case lIor => k_is)
    (case cIor => k_is)
    (case kIor => k_is)
    (case aIsub => k_is)
    (case iIsub => k_is)
    (case lIsub => k_is)
    (case cIsub => k_is)
    (case kIsub => k_is)
    (case aOr => k_is)
    (case iOr => k_is)
    (case lOr => k_is)
    (case cOr => k_is)
    (case kOr => k_is)
    (case aSub => k_is)
    (case iSub => k_is)
    (case lSub => k_is)
    (case cSub => k_is)
    (case kSub => k_is)
    (case aSource => k_is)
    (case lSource => k_is)
    (case cSource => k_is)
    (case kSource => k_is)
    (case aTake => k_is)
    (case lTake => k_is)
    (case cTake => k_is)
    (case kTake => k_is)
    (case aValue => k_is)
    (case lValue => k_is)
    (case cValue => k_is)
    (case kValue => k_is)
    (case aValues => k_is)
    (case lValues => k_is)
    (case cValues => k_is)
    (case kValues => k_is)
    (case aDue => k_is)
    (case lDue => k_is)
    (case cDue => k_is)
    (case kDue => k_is)
    (case aAll => k_is)
    (case lAll => k_is)
    (case cAll => k_is)
    (case kAll => k_is)
    (case aLaw => k_is)
    (case lLaw => k_is)
    (case cLaw => k_is)
    (case kLaw => k_is)
    (case pg => k_is)
    (case hd => k_is)
    (case po => k_is)
    (case sa => k_is)
    (case mk => k_is)
    (case kc => k_is)
    (case nI => k_is)
    (case nS => k_is)
    (case sf => k_is)
    (case qe => k_is)
    (case qn => k_is)
    (case ob => k_is)
    (case mL => k_is)
    (case sL => k_is)
    (case gr => k_is)
    (case lT => k_is)
    (case kD => k_is)
    (case z_isinstance => k_is)
    (case z_int => k_is)
    (case z_bool => k_is)
    (case z_list => k_is)
    (case z_sorted => k_is)
    (case z_len => k_is)
    (case z_set => k_is)
    (case z_range => k_is)
    (case z_enumerate => k_is)
    (case z_max => k_is)
    (case z_min => k_is)
    (case z_abs => k_is)
    (case z_any => k_is)
#print axioms PySem.Challenge.cw_nestedwrites_k10_bags_by_operators_holds
