import PyProof.Rows.All
import Wide.All
import OpenK.AllK
import Wide.FinOn
import KE.KOpsOwn
import HandS.ForMost
import HandS.More
import HandS.OwnEq
import HandS.SetFor
import HandS.Strs
import HandS.Defaults
import HandS.MakeKw
import HandS.DictComp
import HandS.IsInst
import HandS.SortInts
import HandS.Conv
import HandS.Wide
import HandS.Walk
import HandS.Style
import HandS.Flow
import HandS.EndBits
import HandS.Evl
import PyProof.ReprReads
import PyProof.ReprRoads
import HandS.Exc
import HandS.ExcOwn
import HandS.ExcInit
import HandS.ExcField
import HandS.ExcIs
import HandS.WordsExc
import KE.KExcIs
import HandS.CallRecv
import PySem.Challenge.RW_nestedwrites_k09_values_in_bags
set_option Elab.async false
set_option linter.all false
set_option maxRecDepth 100000
set_option maxHeartbeats 4000000
namespace L2.G42
open PySem PySem.Spec PyProof.Rows
section
variable {X : Cx} {CX : CXT} {n : Nat} {C f : Addr} {fd : FuncData} {ps : List Str} {sp : Sp} {E : XK}
/-- an own method of two operands, by its promise -/
def rOwn2 (C : Addr) (sp : Sp) (E : XK) : R2 := fun x y H Q => ∃ a dx fs, x = .ref a ∧ H a = some (.ins C dx fs) ∧ sp [x, y] H Q E
theorem own_call {pins : List (Addr × Obj)} {s : Shared} {σ : St} {H : Hp} {x y : V} {u v : Value} {Q : VK} (F : FnOk X.prog X.w X.K X.mg X.base CX n f fd ps sp) (hb : Binds X.K fd ps []) (hr : Room n X.A) (hx : Passes CX X E)
    (I : Inv X pins σ H s) (rx : RelV x u) (ry : RelV y v) (hsp : sp [x, y] H Q E) :
    wpAny (model X.prog X.w) X.A (call (.ref f) [u, v]) (PySem.W.CmpBack (EP X pins σ Q)) X.xe s := by
  have hl := F.len _ _ _ _ hsp
  have r2 : Vals [x, y] [u, v] := .cons rx (.cons ry .nil)
  refine wpAny_call (codeAny_mono (F.run X.A X.stack s H ⟨[u, v], []⟩ [u, v] [x, y] _ E hr I.env0 (by
    have := hb s [u, v] I.kIn (by simpa using hl)
    simpa using this) r2 hsp) fun r s' hq => ?_)
  cases r with
  | error e => exact hx pins σ H s e s' I hq
  | ok fl =>
    cases fl with
    | ret w =>
      obtain ⟨z, H', I', rz, q⟩ := I.after hq
      have hz : EP X pins σ Q w s' := ⟨z, H', I', rz, q⟩
      cases z with
      | non => cases rz; exact hz
      | bl b => cases rz; exact hz
      | int i => obtain ⟨t, rfl⟩ := rz; exact hz
      | str i => obtain ⟨t, rfl⟩ := rz; exact hz
      | byt i => obtain ⟨t, rfl⟩ := rz; exact hz
      | flt i => obtain ⟨t, rfl⟩ := rz; exact hz
      | ref a => cases rz; exact hz
      | ty a => cases rz; exact hz
    | next => exact False.elim hq
    | brk => exact False.elim hq
    | cont => exact False.elim hq
theorem op_own {op : Operator} (F : FnOk X.prog X.w X.K X.mg X.base CX n f fd ps sp) (hs : PySem.W.findIn X.K (.ref C) (PySem.dunder op.info.2) = some (some (.ref f))) (hf : PySem.W.isFn X.K (.ref f) = true) (hc : PySem.W.selfFirst X.K C = true)
    (hb : Binds X.K fd ps []) (hr : Room n X.A) (hx : Passes CX X E) : OpR X (binaryOp op) (fun x y H Q => (∃ b dy gs, y = .ref b ∧ H b = some (.ins C dy gs)) ∧ rOwn2 C sp E x y H Q) := by
  intro pins s σ H x y u v Q I rx ry h
  obtain ⟨⟨b, dy, gs, rfl, hb'⟩, a, dx, fs, rfl, ha, hsp⟩ := h
  have rx' := rx
  have ry' := ry
  cases rx
  cases ry
  obtain ⟨mA, J, _⟩ := ins_get I.hok ha
  obtain ⟨mB, J', _⟩ := ins_get I.hok hb'
  obtain ⟨od, J, _⟩ := J.look
  obtain ⟨od', J', _⟩ := J'.look
  obtain ⟨m, hF⟩ := I.fr
  exact PySem.W.binop_K hF I.ok.mod.kin J J'.type hc hs hf (own_call F hb hr hx I rx' ry' hsp)
theorem iop_own {op : Operator} (F : FnOk X.prog X.w X.K X.mg X.base CX n f fd ps sp) (hs : PySem.W.findIn X.K (.ref C) (dunderI op.info.2) = some (some (.ref f))) (hf : PySem.W.isFn X.K (.ref f) = true) (hc : PySem.W.selfFirst X.K C = true)
    (hb : Binds X.K fd ps []) (hr : Room n X.A) (hx : Passes CX X E) : OpR X (inplaceOp op) (rOwn2 C sp E) := by
  intro pins s σ H x y u v Q I rx ry h
  obtain ⟨a, dx, fs, rfl, ha, hsp⟩ := h
  have rx' := rx
  cases rx
  obtain ⟨mA, J, _⟩ := ins_get I.hok ha
  obtain ⟨od, J, _⟩ := J.look
  obtain ⟨m, hF⟩ := I.fr
  exact PySem.W.ksp_inplace hF I.ok.mod.kin J hc hs hf (own_call F hb hr hx I rx' ry hsp)
end
end L2.G42

set_option Elab.async false
set_option linter.all false
set_option maxRecDepth 100000
set_option maxHeartbeats 4000000
namespace L2.G42
open PySem PySem.Spec PyProof.Rows
section
variable {M : Model} {prog : Program} {w : World} {A : Around} {E : Value → Shared → Prop} {s : Shared} {K : PySem.W.Frag} {x y C D : Addr} {ox oy : Obj} {od oe : Option Obj}
theorem inst_notup (I : PySem.W.InstAt s.heap x ox C od) : ox.cls ≠ .type "tuple" := by
  rw [I.cls]
  intro e
  cases e
/-- no == of its own -/
structure Plain (K : PySem.W.Frag) (C : Addr) : Prop where
  eq : PySem.W.findIn K (.ref C) "__eq__" = some (some (.builtin "object.__eq__"))
  ne : PySem.W.findIn K (.ref C) "__ne__" = some (some (.builtin "object.__ne__"))
  ob : PySem.W.mroIn K C (.type "object") = some true
theorem id_call_same {Q : Value → Shared → Prop} (X : K.In s.heap) (I : PySem.W.InstAt s.heap x ox C od) (P : Plain K C) (hq : Q (.bool true) s) :
    wpAny (model prog w) A (call (.builtin "object.__eq__") [.ref x, .ref x]) Q E s :=
  wpAny_call (codeAny_call_builtin F.cmp_object.eq.plain F.cmpEntry_eq (PySem.W.check_slot F.cmpKind_eq F.cmpSplit_eq (I.type.andThen (PySem.W.looks_mroIn X P.ob)) (F.cmpArgs_eq _ _) (objEq_entry_same hq)))
theorem id_call_other {Q : Value → Shared → Prop} (X : K.In s.heap) (I : PySem.W.InstAt s.heap x ox C od) (P : Plain K C) (hy : s.heap.get? y = some oy) (hxy : x ≠ y) (hq : Q .notImplemented s) :
    wpAny (model prog w) A (call (.builtin "object.__eq__") [.ref x, .ref y]) Q E s :=
  wpAny_call (codeAny_call_builtin F.cmp_object.eq.plain F.cmpEntry_eq (PySem.W.check_slot F.cmpKind_eq F.cmpSplit_eq (I.type.andThen (PySem.W.looks_mroIn X P.ob)) (F.cmpArgs_eq _ _) (objEq_entry_other hxy I.at_ hy (inst_notup I) hq)))
theorem ifBound_b {name : Str} {id : String} {args : List Value} {Q : Option Value → Shared → Prop} (S : Slot "object" name id) (X : K.In s.heap) (I : PySem.W.InstAt s.heap x ox C od) (hs : PySem.W.findIn K (.ref C) name = some (some (.builtin id)))
    (h : wpAny M A (call (.builtin id) (.ref x :: args)) (fun v => Q (some v)) E s) : wpAny M A (callSpecialIfBound? (.ref x) name args) Q E s := by
  simp only [callSpecialIfBound?, bindSpecialIfBound?]
  refine wpAny_holding (wpAny_bind (wpAny_bind (wpAny_bind (I.type.here ((PySem.W.looks_findIn X hs).here ?_)))))
  refine wpAny_bind (wpAny_askSetting (wpAny_ite ?_))
  have fin : wpAny M A (call (.builtin id) ([.ref x] ++ args) >>= fun v => pure (some v)) Q E s := wpAny_bind (wpAny_mono h (fun v s' h' => wpAny_pure h') fun _ _ h' => h')
  split
  · exact wpAny_bind (wpAny_of_eq (S.bind _) (wpAny_pure (by exact fin)))
  · exact wpAny_tryCatch (wpAny_bind (wpAny_of_eq (S.bind _) (wpAny_pure (by exact fin))))
theorem sp_same {Q : Option Value → Shared → Prop} (X : K.In s.heap) (I : PySem.W.InstAt s.heap x ox C od) (P : Plain K C) (hq : Q (some (.bool true)) s) :
    wpAny (model prog w) A (callSpecialIfBound? (.ref x) "__eq__" [.ref x]) Q E s := ifBound_b F.cmp_object.eq X I P.eq (id_call_same X I P hq)
theorem sp_other {Q : Option Value → Shared → Prop} (X : K.In s.heap) (I : PySem.W.InstAt s.heap x ox C od) (P : Plain K C) (hy : s.heap.get? y = some oy) (hxy : x ≠ y) (hq : Q (some .notImplemented) s) :
    wpAny (model prog w) A (callSpecialIfBound? (.ref x) "__eq__" [.ref y]) Q E s := ifBound_b F.cmp_object.eq X I P.eq (id_call_other X I P hy hxy hq)
theorem try_same {Q : Option Value → Shared → Prop} (X : K.In s.heap) (I : PySem.W.InstAt s.heap x ox C od) (P : Plain K C) (hq : Q (some (.bool true)) s) :
    wpAny (model prog w) A (tryCompare (.ref x) "__eq__" (.ref x)) Q E s := by
  simp only [tryCompare]
  exact wpAny_bind (sp_same X I P (wpAny_pure hq))
theorem try_other {Q : Option Value → Shared → Prop} (X : K.In s.heap) (I : PySem.W.InstAt s.heap x ox C od) (P : Plain K C) (hy : s.heap.get? y = some oy) (hxy : x ≠ y) (hq : Q none s) :
    wpAny (model prog w) A (tryCompare (.ref x) "__eq__" (.ref y)) Q E s := by
  simp only [tryCompare]
  exact wpAny_bind (sp_other X I P hy hxy (wpAny_pure hq))
theorem ne_entry_same (X : K.In s.heap) (I : PySem.W.InstAt s.heap x ox C od) (P : Plain K C) (hu : A.units < cLine) {Q : Fin → Shared → Prop} (hq : Q (.done (.ret (.bool false))) s) :
    wpAny (model prog w) A (Builtin.«object.__ne__» ⟨[.ref x, .ref x], []⟩) Q E s := by
  unfold Builtin.«object.__ne__»
  obtain ⟨h, g, d, t, os⟩ := s
  repeat (first | with_reducible refine wpAny_cRoomFor hu ?_ | with_reducible refine sp_same X I P ?_ | wp_step)
  exact hq
theorem ne_entry_other (X : K.In s.heap) (I : PySem.W.InstAt s.heap x ox C od) (P : Plain K C) (hy : s.heap.get? y = some oy) (hxy : x ≠ y) (hu : A.units < cLine) {Q : Fin → Shared → Prop} (hq : Q (.done (.ret .notImplemented)) s) :
    wpAny (model prog w) A (Builtin.«object.__ne__» ⟨[.ref x, .ref y], []⟩) Q E s := by
  unfold Builtin.«object.__ne__»
  obtain ⟨h, g, d, t, os⟩ := s
  repeat (first | with_reducible refine wpAny_cRoomFor hu ?_ | with_reducible refine sp_other X I P hy hxy ?_ | wp_step)
  exact hq
theorem tryn_same {Q : Option Value → Shared → Prop} (X : K.In s.heap) (I : PySem.W.InstAt s.heap x ox C od) (P : Plain K C) (hu : A.units + 1 < cLine) (hq : Q (some (.bool false)) s) :
    wpAny (model prog w) A (tryCompare (.ref x) "__ne__" (.ref x)) Q E s := by
  simp only [tryCompare]
  refine wpAny_bind (ifBound_b F.cmp_object.ne X I P.ne (wpAny_call (codeAny_call_builtin F.cmp_object.ne.plain F.cmpEntry_ne (PySem.W.check_slot F.cmpKind_ne F.cmpSplit_ne (I.type.andThen (PySem.W.looks_mroIn X P.ob)) (F.cmpArgs_ne _ _) (ne_entry_same (A := A.in1) X I P hu ?_)))))
  exact wpAny_pure hq
theorem tryn_other {Q : Option Value → Shared → Prop} (X : K.In s.heap) (I : PySem.W.InstAt s.heap x ox C od) (P : Plain K C) (hy : s.heap.get? y = some oy) (hxy : x ≠ y) (hu : A.units + 1 < cLine) (hq : Q none s) :
    wpAny (model prog w) A (tryCompare (.ref x) "__ne__" (.ref y)) Q E s := by
  simp only [tryCompare]
  refine wpAny_bind (ifBound_b F.cmp_object.ne X I P.ne (wpAny_call (codeAny_call_builtin F.cmp_object.ne.plain F.cmpEntry_ne (PySem.W.check_slot F.cmpKind_ne F.cmpSplit_ne (I.type.andThen (PySem.W.looks_mroIn X P.ob)) (F.cmpArgs_ne _ _) (ne_entry_other (A := A.in1) X I P hy hxy hu ?_)))))
  exact wpAny_pure hq
/-- neither type is first -/
theorem first_no {α : Type} {ta tb : Value} {k : Bool → Sem α} {Q : α → Shared → Prop} (X : K.In s.heap) (hn : ta = tb ∨ PySem.W.subIn K tb ta = some false) (hq : wpAny M A (k false) Q E s) :
    wpAny M A (if ta != tb then isSubtype tb ta >>= k else pure false >>= k) Q E s := by
  by_cases h : ta = tb
  · subst h
    rw [if_neg (by simp)]
    exact wpAny_bind (wpAny_pure hq)
  · rw [if_pos (by simp [h])]
    rcases hn with e | e
    · exact absurd e h
    · exact wpAny_bind ((PySem.W.looks_subIn X e).here hq)
theorem rc_eq_same {Q : Value → Shared → Prop} (X : K.In s.heap) (I : PySem.W.InstAt s.heap x ox C od) (P : Plain K C) (hu : A.units < cLine) (hq : Q (.bool true) s) :
    wpAny (model prog w) A (richCompare .Eq (.ref x) (.ref x)) Q E s := by
  simp only [richCompare, cmpInfo_Eq, oneThing_ref]
  refine wpAny_holding (wpAny_bind (wpAny_cRoomFor hu ?_))
  refine wpAny_bind (I.type.here (wpAny_bind (I.type.here (first_no X (.inl rfl) ?_))))
  simp only [Bool.false_eq_true, if_false, Bool.not_false, if_true]
  exact wpAny_bind (try_same X I P (wpAny_pure hq))
theorem rc_ne_same {Q : Value → Shared → Prop} (X : K.In s.heap) (I : PySem.W.InstAt s.heap x ox C od) (P : Plain K C) (hu : A.units + 1 < cLine) (hq : Q (.bool false) s) :
    wpAny (model prog w) A (richCompare .NotEq (.ref x) (.ref x)) Q E s := by
  simp only [richCompare, cmpInfo_NotEq, oneThing_ref]
  refine wpAny_holding (wpAny_bind (wpAny_cRoomFor (Nat.lt_of_succ_lt hu) ?_))
  refine wpAny_bind (I.type.here (wpAny_bind (I.type.here (first_no X (.inl rfl) ?_))))
  simp only [Bool.false_eq_true, if_false, Bool.not_false, if_true]
  exact wpAny_bind (tryn_same X I P hu (wpAny_pure hq))
/-- the other one says nothing -/
theorem rc_eq_other {tb : Value} {Q : Value → Shared → Prop} (X : K.In s.heap) (I : PySem.W.InstAt s.heap x ox C od) (P : Plain K C) (hy : s.heap.get? y = some oy) (hxy : x ≠ y) (hT : PySem.W.Looks (model prog w) s.heap (typeOf (.ref y)) tb)
    (hn : (.ref C) = tb ∨ PySem.W.subIn K tb (.ref C) = some false) (back : ∀ Q' : Option Value → Shared → Prop, Q' none s → wpAny (model prog w) A (tryCompare (.ref y) "__eq__" (.ref x)) Q' E s) (hu : A.units < cLine) (hq : Q (.bool false) s) :
    wpAny (model prog w) A (richCompare .Eq (.ref x) (.ref y)) Q E s := by
  simp only [richCompare, cmpInfo_Eq, oneThing_ref]
  refine wpAny_holding (wpAny_bind (wpAny_cRoomFor hu ?_))
  refine wpAny_bind (I.type.here (wpAny_bind (hT.here (first_no X hn ?_))))
  simp only [Bool.false_eq_true, if_false, Bool.not_false, if_true]
  refine wpAny_bind (try_other X I P hy hxy ?_)
  refine wpAny_bind (back _ ?_)
  exact wpAny_bind (wpAny_rule (wpAny_bind (wpAny_isSame_ref_other hxy I.at_ hy (inst_notup I) (wpAny_pure hq))))
theorem rc_ne_other {tb : Value} {Q : Value → Shared → Prop} (X : K.In s.heap) (I : PySem.W.InstAt s.heap x ox C od) (P : Plain K C) (hy : s.heap.get? y = some oy) (hxy : x ≠ y) (hT : PySem.W.Looks (model prog w) s.heap (typeOf (.ref y)) tb)
    (hn : (.ref C) = tb ∨ PySem.W.subIn K tb (.ref C) = some false) (back : ∀ Q' : Option Value → Shared → Prop, Q' none s → wpAny (model prog w) A (tryCompare (.ref y) "__ne__" (.ref x)) Q' E s) (hu : A.units + 1 < cLine) (hq : Q (.bool true) s) :
    wpAny (model prog w) A (richCompare .NotEq (.ref x) (.ref y)) Q E s := by
  simp only [richCompare, cmpInfo_NotEq, oneThing_ref]
  refine wpAny_holding (wpAny_bind (wpAny_cRoomFor (Nat.lt_of_succ_lt hu) ?_))
  refine wpAny_bind (I.type.here (wpAny_bind (hT.here (first_no X hn ?_))))
  simp only [Bool.false_eq_true, if_false, Bool.not_false, if_true]
  refine wpAny_bind (tryn_other X I P hy hxy hu ?_)
  refine wpAny_bind (back _ ?_)
  exact wpAny_bind (wpAny_rule (wpAny_bind (wpAny_isSame_ref_other hxy I.at_ hy (inst_notup I) (wpAny_pure hq))))
/-- a list says nothing of what is no list -/
theorem list_back {its : Array Value} {n : Nat} {Q : Option Value → Shared → Prop} (X : K.In s.heap) (I : PySem.W.InstAt s.heap x ox C od) (hm : PySem.W.mroIn K C (.type "list") = some false)
    (hy : s.heap.get? y = some { cls := .type "list", data := .seq its n }) (hq : Q none s) : wpAny (model prog w) A (tryCompare (.ref y) "__eq__" (.ref x)) Q E s := by
  refine wpAny_tryCompare_declines ⟨_, hy, rfl⟩ F.slot_list_eq (GQ.call_here F.slot_list_eq ⟨_, hy, rfl⟩ F.entry_list_eq (F.args_list_eq_2 _ _) ?_)
  have hi : PySem.W.Looks (model prog w) s.heap (isInstance (.ref x) (.type "list")) false := I.type.andThen (PySem.W.looks_mroIn X hm)
  unfold Builtin.«list.__eq__»
  show wpAny (model prog w) A.in1 (isInstance (.ref x) (.type "list") >>= _) _ _ s
  refine wpAny_bind (hi.here ?_)
  simp only [Bool.not_false, if_true]
  exact wpAny_pure ⟨rfl, hq⟩
end
section
variable {X : Cx} {C : Addr}
/-- == of two instances without an == of their own -/
def rEqI (C : Addr) : R2 := fun x y H Q => ∃ a b dx dy fs gs, x = .ref a ∧ y = .ref b ∧ H a = some (.ins C dx fs) ∧ H b = some (.ins C dy gs) ∧ Q (.bl (decide (a = b))) H
def rNeI (C : Addr) : R2 := fun x y H Q => ∃ a b dx dy fs gs, x = .ref a ∧ y = .ref b ∧ H a = some (.ins C dx fs) ∧ H b = some (.ins C dy gs) ∧ Q (.bl (!decide (a = b))) H
theorem op_eqI (P : Plain X.K C) (hu : X.A.units < cLine) : OpR X (compareOp .Eq) (rEqI C) := by
  intro pins s σ H x y u v Q I rx ry h
  obtain ⟨a, b, dx, dy, fs, gs, rfl, rfl, ha, hb, q⟩ := h
  cases rx
  cases ry
  obtain ⟨mA, J, _⟩ := ins_get I.hok ha
  obtain ⟨mB, J', _⟩ := ins_get I.hok hb
  obtain ⟨od, J, _⟩ := J.look
  obtain ⟨od', J', _⟩ := J'.look
  by_cases e : a = b
  · subst e
    exact rc_eq_same I.kIn J P hu ⟨.bl true, H, I, rfl, by simpa using q⟩
  · exact rc_eq_other I.kIn J P J'.at_ e J'.type (.inl rfl) (fun Q' q' => try_other I.kIn J' P J.at_ (Ne.symm e) q') hu ⟨.bl false, H, I, rfl, by simpa [e] using q⟩
theorem op_neI (P : Plain X.K C) (hu : X.A.units + 1 < cLine) : OpR X (compareOp .NotEq) (rNeI C) := by
  intro pins s σ H x y u v Q I rx ry h
  obtain ⟨a, b, dx, dy, fs, gs, rfl, rfl, ha, hb, q⟩ := h
  cases rx
  cases ry
  obtain ⟨mA, J, _⟩ := ins_get I.hok ha
  obtain ⟨mB, J', _⟩ := ins_get I.hok hb
  obtain ⟨od, J, _⟩ := J.look
  obtain ⟨od', J', _⟩ := J'.look
  by_cases e : a = b
  · subst e
    exact rc_ne_same I.kIn J P hu ⟨.bl false, H, I, rfl, by simpa using q⟩
  · exact rc_ne_other I.kIn J P J'.at_ e J'.type (.inl rfl) (fun Q' q' => tryn_other I.kIn J' P J.at_ (Ne.symm e) hu q') hu ⟨.bl true, H, I, rfl, by simpa [e] using q⟩
/-- == of such an instance and a list -/
def rEqIL (C : Addr) : R2 := fun x y H Q => ∃ a b dx fs ys, x = .ref a ∧ y = .ref b ∧ H a = some (.ins C dx fs) ∧ H b = some (.lst ys) ∧ Q (.bl false) H
theorem op_eqIL (P : Plain X.K C) (hs : PySem.W.subIn X.K (.type "list") (.ref C) = some false) (hm : PySem.W.mroIn X.K C (.type "list") = some false) (hu : X.A.units < cLine) : OpR X (compareOp .Eq) (rEqIL C) := by
  intro pins s σ H x y u v Q I rx ry h
  obtain ⟨a, b, dx, fs, ys, rfl, rfl, ha, hb, q⟩ := h
  cases rx
  cases ry
  obtain ⟨mA, J, _⟩ := ins_get I.hok ha
  obtain ⟨od, J, _⟩ := J.look
  obtain ⟨z, its, n, r, e⟩ := I.hok b _ hb
  have hab : a ≠ b := ne_of ha hb (by intro z; cases z)
  exact rc_eq_other I.kIn J P e hab ((PySem.W.Looks.ld e).andThen .now) (.inr hs) (fun Q' q' => list_back I.kIn J hm e q') hu ⟨.bl false, H, I, rfl, q⟩
end
end L2.G42

set_option Elab.async false
set_option linter.all false
set_option maxRecDepth 100000
set_option maxHeartbeats 4000000
namespace L2.G42
open PySem PySem.Spec PyProof.Rows
section
variable {P : Program} {w : World} {A : Around} {E : Value → Shared → Prop} {s : Shared}
/-- an empty set's object -/
abbrev eS (w : World) : Obj := { cls := .type "set", dict := none, data := .set #[] 0 (.fresh 0 0 (!w.params.followText "set-order")) }
/-- set.__init__ of the new set over a list of ints -/
theorem set_init_list {l : Addr} {its : Array Value} (ns : List Int) {R : Result → Shared → Prop} (hh : A.handled = none) (hl : s.heap.IsList l its) (hi : IntsAre its.toList ns) (few : ns.length + 1 < scanBound)
    (fin : ∀ (h' : Heap) (tk c : Nat), SetR w h' s.heap.objs.size (fun j => decide (j ∈ ns)) c → c ≤ ns.length → (∀ b o, s.heap.get? b = some o → h'.get? b = some o) → R (.ok (.ret .none)) { s with heap := h', toks := tk }) :
    wpAny (model P w) A.in1.in1 (Builtin.«set.__init__» ⟨[.ref s.heap.objs.size, .ref l], []⟩) (fun f s' => match f with | .done f => R (.ok f) s' | .again c' => c'.quiet = true ∧ codeAny (model P w) A.in1 c' R s') (fun e s' => R (.error e) s') { s with heap := s.heap.push (eS w) } := by
  have hz : its.size = ns.length := by
    have q := IntsAre.length hi
    rwa [Array.length_toList] at q
  obtain ⟨ob, hob, hcl, nl, hdl⟩ := hl
  obtain ⟨_, odict, _, osl⟩ := ob
  simp only at hcl hdl
  subst hcl; subst hdl
  have lts : l < s.heap.objs.size := Heap.lt_size hob
  have gS : (s.heap.push (eS w)).get? s.heap.objs.size = some (eS w) := Heap.get?_push_size _ rfl
  have gl : (s.heap.push (eS w)).get? l = some { cls := .type "list", dict := odict, data := .seq its nl, slots := osl } := Heap.get?_push_of_some _ hob
  have il : (s.heap.push (eS w)).IsList l its := ⟨_, gl, rfl, nl, rfl⟩
  have k1 := PySem.F.sub_list_set
  have k2 := PySem.F.sub_list_frozenset
  have k3 : (Value.type "list" == Value.type "dict") = false := by decide
  unfold Builtin.«set.__init__» noKeywords Builtin.Frozenset.updateFrom
  generalize hPI : pyIter = PI
  wp_walk
  subst hPI
  refine wpAny_pyIter_list il (wpAny_bind (wpAny_runValue ?_))
  have n1 : l ≠ (s.heap.push (eS w)).objs.size := by rw [Heap.size_push]; exact Nat.ne_of_lt (Nat.lt_succ_of_lt lts)
  have n2 : s.heap.objs.size ∉ [(s.heap.push (eS w)).objs.size, l] := by
    rw [Heap.size_push]
    simp only [List.mem_cons, List.mem_singleton, List.not_mem_nil, or_false, not_or]
    exact ⟨Nat.ne_of_lt (Nat.lt_succ_self _), Nat.ne_of_gt lts⟩
  refine set_update_ints ((Walks.list (A := A.in1.in1.in1) (by simp [hh]) _ l n1 its).toS) s.heap.objs.size n2 ns hz few (fun i v hv => ?_) its.size 0 _ rfl (Nat.zero_le _) ⟨⟨_, Heap.get?_push_size _ rfl, rfl, rfl⟩, il.push _⟩ ⟨0, Nat.le_refl 0, setR_new_at (Heap.get?_push_of_some _ gS)⟩ fun s' c hm hc hS => ?_
  · have lt : i < ns.length := hz ▸ (Array.getElem?_eq_some_iff.mp hv).1
    obtain ⟨t, e⟩ := PyProof.Rows.IntsAre.int_at hi i v (by rw [Array.getElem?_toList]; exact hv)
    exact ⟨ns[i], t, List.getElem?_eq_getElem lt, by rw [e, List.getD_eq_getElem?_getD, List.getElem?_eq_getElem lt]; rfl⟩
  · obtain ⟨h', _, _, tk, _⟩ := s'
    obtain rfl := hm.gens
    obtain rfl := hm.drawn
    obtain rfl := hm.os
    refine wpAny_pure (wpAny_pure (fin h' tk c hS (hz ▸ hc) fun b o e => ?_))
    have lb : b < s.heap.objs.size := Heap.lt_size e
    refine hm.heap b o ?_ (Heap.get?_push_of_some _ (Heap.get?_push_of_some _ e))
    rw [Heap.size_push]
    simp only [List.mem_cons, List.mem_singleton, List.not_mem_nil, or_false, not_or]
    exact ⟨Nat.ne_of_lt lb, Nat.ne_of_lt (Nat.lt_succ_of_lt lb)⟩
/-- how the init ends -/
def InitR (w : World) (s : Shared) (ns : List Int) : Result → Shared → Prop := fun r s₂ => r = .ok (.ret .none) ∧ ∃ h' tk c, s₂ = { s with heap := h', toks := tk } ∧ SetR w h' s.heap.objs.size (fun j => decide (j ∈ ns)) c ∧ c ≤ ns.length ∧ ∀ b o, s.heap.get? b = some o → h'.get? b = some o
/-- set(l), l a list of ints -/
theorem set_of_list {l : Addr} {its : Array Value} (ns : List Int) {Q : Value → Shared → Prop} (hh : A.handled = none) (hl : s.heap.IsList l its) (hi : IntsAre its.toList ns) (few : ns.length + 1 < scanBound)
    (fin : ∀ (h' : Heap) (tk c : Nat), SetR w h' s.heap.objs.size (fun j => decide (j ∈ ns)) c → c ≤ ns.length → (∀ b o, s.heap.get? b = some o → h'.get? b = some o) → Q (.ref s.heap.objs.size) { s with heap := h', toks := tk }) :
    wpAny (model P w) A (call (.type "set") [.ref l]) Q E s := by
  obtain ⟨_, _, e0⟩ := PySem.F.called_set.mro
  have e1 := PySem.F.called_set.made
  have e2 := PySem.F.called_set.sub
  have e3 := PySem.F.called_set.notType
  have e4 := PySem.F.called_set.canCreate
  have e5 := PySem.F.typeCall_set_1 (.ref l)
  refine wpAny_call (codeAny_of_tree ?_)
  show wpAny _ _ (callAny (.type "set") _) _ _ _
  refine wpAny_pure ⟨Code.quiet_builtin _ (by decide +kernel), codeAny_builtin PySem.F.entry_type_call ?_⟩
  rw [Around.under_plain (weight_type_call_type "set" [.ref l] []) rfl]
  repeat (any_goals (first | assumption | wp_step))
  refine codeAny_mono (code_set_led1 (.ref l) (E := E) (Q₁ := fun v s₁ => v = .ref s.heap.objs.size ∧ s₁ = { s with heap := s.heap.push (eS w) }) ⟨rfl, rfl⟩) fun r s₁ hr => ?_
  match r, hr with
  | .error _, hr => exact hr
  | .ok .next, hr => exact hr.elim
  | .ok .brk, hr => exact hr.elim
  | .ok .cont, hr => exact hr.elim
  | .ok (.ret v), hr =>
    obtain ⟨rfl, rfl⟩ := hr
    have gS : (s.heap.push (eS w)).get? s.heap.objs.size = some (eS w) := Heap.get?_push_size _ rfl
    have tS : Shared.TypeIs { s with heap := s.heap.push (eS w) } (.ref s.heap.objs.size) "set" := ⟨_, gS, rfl⟩
    have e6 := PySem.F.called_set.init.lookup
    have e7 := PySem.F.called_set.init.bind (.ref s.heap.objs.size)
    repeat (any_goals (first | assumption | wp_step))
    refine codeAny_mono (codeAny_call_builtin (R := InitR w s ns)
      PySem.F.called_set.init.plain PySem.F.entry_set_init (check_set_init_1 tS (set_init_list (P := P) (w := w) (A := A) (R := InitR w s ns) ns hh hl hi few fun h' tk c a b d => ⟨rfl, h', tk, c, rfl, a, b, d⟩))) fun r₂ s₂ hr₂ => ?_
    obtain ⟨rfl, h', tk, c, rfl, a, b, d⟩ := hr₂
    repeat (any_goals (first | assumption | wp_step))
    exact fin h' tk c a b d
end
section
variable {X : Cx}
/-- set(xs), xs a list of ints -/
def rSetL (K : PySem.W.Frag) (w : World) : List V → Hp → VK → Prop := fun xs H Q => ∃ (l : Addr) (ns : List Int), xs = [.ref l] ∧ SqL K H l (ns.map V.int) ∧ ns.length ≤ 1000 ∧
  ∀ p c, H p = none → c ≤ ns.length → Q (.ref p) (upd H p (SetO w p (fun j => decide (j ∈ ns)) c))
theorem cr_setL (hc : X.calm = true) : CallR X (.type "set") (rSetL X.K X.w) := by
  intro pins s σ H xs us Q I r h
  obtain ⟨l, ns, rfl, hl, few, q⟩ := h
  rw [Vals.ref1 r]
  obtain ⟨its, r1, e1, z1⟩ := I.list hl
  refine set_of_list ns (I.ok.hd hc) e1.isList (intsAre_of r1) (Nat.lt_of_le_of_lt (Nat.add_le_add_right few 1) (by decide)) fun h' tk c a b d => ?_
  have hp : H s.heap.objs.size = none := I.hok.fresh (Nat.le_refl _)
  exact ⟨.ref _, upd H s.heap.objs.size (SetO X.w s.heap.objs.size (fun j => decide (j ∈ ns)) c), I.laid d (Nat.le_refl _) (setO_new a), rfl, q _ c hp b⟩
end
end L2.G42

set_option Elab.async false
set_option linter.all false
set_option maxRecDepth 100000
set_option maxHeartbeats 4000000
namespace L2.G42
open PySem PySem.Spec PyProof.Rows
/-- a test that holds -/
theorem goT {p : Prop} [Decidable p] (h : p) {Q : VK} {H : Hp} (k : Q (.bl true) H) : Q (.bl (decide p)) H := by
  rw [decide_eq_true h]
  exact k
theorem goF {p : Prop} [Decidable p] (h : ¬ p) {Q : VK} {H : Hp} (k : Q (.bl false) H) : Q (.bl (decide p)) H := by
  rw [decide_eq_false h]
  exact k
/-- a dict comprehension over a walk: the new dict at D -/
theorem dc_it {J : It} {n : Nat} {G : Hp → Prop} {Y : Nat → Hp → V → Hp → Prop} (w : Walk J n G Y) {g : TG} {tt : TT} {tk tv : TE} {vs : List Nat} {σ : St} {H1 : Hp} {D : Addr} {Qd : Hp → Prop} (Pv : Nat → Hp → Prop) (h0 : Pv 0 (upd H1 D (.dK []))) (hG : ∀ i H, i ≤ n → Pv i H → G H)
    (hs : ∀ i x H H', i < n → Pv i H → Y i H x H' → g x (wipe σ vs) H' fun σ2 H2 => wipe σ2 vs = wipe σ vs ∧ tt σ2 H2 fun b H3 =>
      if b = true then tk σ2 H3 fun y H4 => tv σ2 H4 fun z H5 => ∃ kvs k, y = kV k ∧ H5 D = some (.dK kvs) ∧ kvs.length < sizeLine ∧ Pv (i + 1) (upd H5 D (.dK (putK kvs k z))) else Pv (i + 1) H3) (hd : ∀ H, Pv n H → Qd H) :
    ∃ W : Nat → Nat → Hp → Prop, (∃ m, W 0 m (upd H1 D (.dK []))) ∧ ∀ i m H, W i m H →
      (J.stop i H ∧ Qd H) ∨ (J.go i H ∧ ∃ Nx : Hp → Prop, (∀ H', Nx H' → ∃ m', m' < m ∧ W (i + 1) m' H') ∧ ∀ x H', J.yld i H x H' → g x (wipe σ vs) H' fun σ2 H2 => wipe σ2 vs = wipe σ vs ∧ tt σ2 H2 fun b H3 =>
        if b = true then tk σ2 H3 fun y H4 => tv σ2 H4 fun z H5 => ∃ kvs k, y = kV k ∧ H5 D = some (.dK kvs) ∧ kvs.length < sizeLine ∧ Nx (upd H5 D (.dK (putK kvs k z))) else Nx H3) := by
  refine ⟨fun i m H => m = n - i ∧ i ≤ n ∧ Pv i H, ⟨n, rfl, Nat.zero_le _, h0⟩, ?_⟩
  rintro i m H ⟨rfl, le, p⟩
  have q := hG i H le p
  rcases Nat.lt_or_ge i n with lt | ge
  · exact .inr ⟨w.goes i H lt q, Pv (i + 1), fun H' p' => ⟨n - (i + 1), by omega, rfl, lt, p'⟩, fun x H' y => hs i x H H' lt p (w.yields i H x H' lt q y)⟩
  · obtain rfl : i = n := by omega
    exact .inl ⟨w.stops H q, hd H p⟩
/-! the attributes of a bag -/
theorem in_sh : ¬ (("inside" : Str) = "shared") := by decide +kernel
theorem si_f : (("shared" : Str) == "inside") = false := by decide +kernel
abbrev bfs (u v : V) : List (Str × V) := [(("inside" : Str), u), (("shared" : Str), v)]
theorem bf1 (u : V) : putF "inside" u [] = [(("inside" : Str), u)] := rfl
theorem bf2 (u v : V) : putF "shared" v [(("inside" : Str), u)] = bfs u v := by
  show (if ("inside" : Str) = "shared" then _ else _) = _
  rw [if_neg in_sh]
  all_goals rfl
theorem bfI (u u' v : V) : putF "inside" u' (bfs u v) = bfs u' v := by
  show (if ("inside" : Str) = "inside" then _ else _) = _
  rw [if_pos rfl]
theorem bl_in (u v : V) : List.lookup ("inside" : Str) (bfs u v) = some u := by
  rw [List.lookup_cons]
  simp
theorem bl_sh (u v : V) : List.lookup ("shared" : Str) (bfs u v) = some v := by
  rw [List.lookup_cons, si_f, List.lookup_cons]
  simp
theorem bl_no {m : Str} (u v : V) (h1 : (m == ("inside" : Str)) = false) (h2 : (m == ("shared" : Str)) = false) : List.lookup m (bfs u v) = none := by
  rw [List.lookup_cons, h1, List.lookup_cons, h2]
  rfl
/-! a dict of ints, each with True -/
def kv (ks : List Int) : List (Key × V) := ks.map fun n => ((Sum.inl n : Key), V.bl true)
def ins (ks : List Int) (n : Int) : List Int := if n ∈ ks then ks else ks ++ [n]
def outof (ks : List Int) (n : Int) : List Int := ks.filter fun m => decide (m ≠ n)
theorem kv_len (ks : List Int) : (kv ks).length = ks.length := List.length_map ..
theorem kv_val (n : Int) : ∀ ks : List Int, valV (kv ks) (Sum.inl n : Key) = if n ∈ ks then some (.bl true) else none
  | [] => rfl
  | m :: ks => by
    by_cases e : m = n
    · subst e
      show valV ((Sum.inl m, V.bl true) :: kv ks) _ = _
      rw [valV_pos rfl, if_pos List.mem_cons_self]
    · show valV ((Sum.inl m, V.bl true) :: kv ks) _ = _
      rw [valV_neg (by intro h; exact e (Sum.inl.inj h)), kv_val n ks]
      have : (n ∈ m :: ks) ↔ n ∈ ks := by
        rw [List.mem_cons]
        exact ⟨fun h => h.elim (fun h => absurd h.symm e) id, .inr⟩
      simp only [this]
theorem kv_put (ks : List Int) (n : Int) : putK (kv ks) (Sum.inl n : Key) (.bl true) = kv (ins ks n) := by
  by_cases h : n ∈ ks
  · have e1 : ins ks n = ks := if_pos h
    rw [e1]
    unfold putK
    rw [valV_any, kv_val, if_pos h]
    show (kv ks).map (fun p => if p.1 = Sum.inl n then (p.1, V.bl true) else p) = kv ks
    unfold kv
    rw [List.map_map]
    refine List.map_congr_left fun a _ => ?_
    show (if (Sum.inl a : Key) = Sum.inl n then ((Sum.inl a : Key), V.bl true) else ((Sum.inl a : Key), V.bl true)) = _
    split <;> rfl
  · have e1 : ins ks n = ks ++ [n] := if_neg h
    rw [e1, putK_new _ (by rw [kv_val, if_neg h])]
    unfold kv
    rw [List.map_append]
    rfl
theorem kv_drop (ks : List Int) (n : Int) : dropK (kv ks) (Sum.inl n : Key) = kv (outof ks n) := by
  unfold dropK kv outof
  rw [List.filter_map]
  refine congrArg _ (List.filter_congr fun m _ => ?_)
  show decide ((Sum.inl m : Key) ≠ Sum.inl n) = decide (m ≠ n)
  by_cases e : m = n
  · subst e; simp
  · simp [e]
theorem kv_keys (ks : List Int) : (kv ks).map (fun kv => kV kv.1) = ks.map V.int := by
  unfold kv
  rw [List.map_map]
  rfl
theorem kv_get {ks : List Int} {i : Nat} {k : Key} {v : V} (h : (kv ks)[i]? = some (k, v)) : ∃ n, ks[i]? = some n ∧ k = Sum.inl n := by
  unfold kv at h
  rw [List.getElem?_map] at h
  cases e : ks[i]? with
  | none => rw [e] at h; cases h
  | some n =>
    rw [e] at h
    injection h with h
    injection h with h1 h2
    exact ⟨n, rfl, h1.symm⟩
theorem ins_mem (ks : List Int) (n m : Int) : m ∈ ins ks n ↔ m ∈ ks ∨ m = n := by
  unfold ins
  split
  · rename_i h
    exact ⟨.inl, fun q => q.elim id fun e => e ▸ h⟩
  · simp
theorem ins_nd {ks : List Int} (h : ks.Nodup) (n : Int) : (ins ks n).Nodup := by
  unfold ins
  split
  · exact h
  · rename_i e
    refine List.nodup_append.mpr ⟨h, by simp, fun a ha b hb => ?_⟩
    simp only [List.mem_singleton] at hb
    subst hb
    exact fun q => e (q ▸ ha)
theorem ins_len (ks : List Int) (n : Int) : (ins ks n).length ≤ ks.length + 1 := by
  unfold ins
  split
  · omega
  · simp
theorem outof_mem (ks : List Int) (n m : Int) : m ∈ outof ks n ↔ m ∈ ks ∧ m ≠ n := by
  unfold outof
  simp [List.mem_filter]
theorem outof_nd {ks : List Int} (h : ks.Nodup) (n : Int) : (outof ks n).Nodup := h.filter _
theorem outof_len (ks : List Int) (n : Int) : (outof ks n).length ≤ ks.length := List.length_filter_le _ _
def insAll (ks ns : List Int) : List Int := ns.foldl ins ks
def outAll (ks ns : List Int) : List Int := ns.foldl outof ks
theorem insAll_mem (m : Int) : ∀ (ns ks : List Int), m ∈ insAll ks ns ↔ m ∈ ks ∨ m ∈ ns
  | [], ks => by simp [insAll]
  | n :: ns, ks => by
    show m ∈ insAll (ins ks n) ns ↔ _
    rw [insAll_mem m ns, ins_mem, List.mem_cons, or_assoc]
theorem insAll_nd : ∀ (ns : List Int) {ks : List Int}, ks.Nodup → (insAll ks ns).Nodup
  | [], _, h => h
  | n :: ns, ks, h => insAll_nd ns (ins_nd h n)
theorem insAll_len : ∀ (ns ks : List Int), (insAll ks ns).length ≤ ks.length + ns.length
  | [], ks => by simp [insAll]
  | n :: ns, ks => by
    have a := insAll_len ns (ins ks n)
    have b := ins_len ks n
    show (insAll (ins ks n) ns).length ≤ _
    rw [List.length_cons]
    omega
theorem outAll_mem (m : Int) : ∀ (ns ks : List Int), m ∈ outAll ks ns ↔ m ∈ ks ∧ m ∉ ns
  | [], ks => by simp [outAll]
  | n :: ns, ks => by
    show m ∈ outAll (outof ks n) ns ↔ _
    rw [outAll_mem m ns, outof_mem, List.mem_cons, not_or, and_assoc]
theorem outAll_nd : ∀ (ns : List Int) {ks : List Int}, ks.Nodup → (outAll ks ns).Nodup
  | [], _, h => h
  | n :: ns, ks, h => outAll_nd ns (outof_nd h n)
theorem outAll_len : ∀ (ns ks : List Int), (outAll ks ns).length ≤ ks.length
  | [], ks => by simp [outAll]
  | n :: ns, ks => Nat.le_trans (outAll_len ns _) (outof_len ks n)
theorem insAll_take (ks ns : List Int) {i : Nat} {n : Int} (h : ns[i]? = some n) : insAll ks (ns.take (i + 1)) = ins (insAll ks (ns.take i)) n := by
  unfold insAll
  rw [List.take_add_one, h, List.foldl_append]
  rfl
theorem outAll_take (ks ns : List Int) {i : Nat} {n : Int} (h : ns[i]? = some n) : outAll ks (ns.take (i + 1)) = outof (outAll ks (ns.take i)) n := by
  unfold outAll
  rw [List.take_add_one, h, List.foldl_append]
  rfl
/-- two rising lists with the same members are one -/
theorem rise_one : ∀ {l m : List Int}, l.Pairwise (· < ·) → m.Pairwise (· < ·) → (∀ x, x ∈ l ↔ x ∈ m) → l = m
  | [], [], _, _, _ => rfl
  | [], y :: m, _, _, h => by have := (h y).2 List.mem_cons_self; cases this
  | x :: l, [], _, _, h => by have := (h x).1 List.mem_cons_self; cases this
  | x :: l, y :: m, hl, hm, h => by
    obtain ⟨h1, h2⟩ := List.pairwise_cons.mp hl
    obtain ⟨h3, h4⟩ := List.pairwise_cons.mp hm
    have exy : x = y := by
      rcases List.mem_cons.mp ((h x).1 List.mem_cons_self) with e | e
      · exact e
      · rcases List.mem_cons.mp ((h y).2 List.mem_cons_self) with e' | e'
        · exact e'.symm
        · have a := h3 x e
          have b := h1 y e'
          omega
    subst exy
    refine congrArg _ (rise_one h2 h4 fun z => ⟨fun hz => ?_, fun hz => ?_⟩)
    · rcases List.mem_cons.mp ((h z).1 (List.mem_cons_of_mem _ hz)) with e | e
      · subst e; have := h1 z hz; omega
      · exact e
    · rcases List.mem_cons.mp ((h z).2 (List.mem_cons_of_mem _ hz)) with e | e
      · subst e; have := h3 z hz; omega
      · exact e
theorem le_nd_lt : ∀ {l : List Int}, l.Pairwise (· ≤ ·) → l.Nodup → l.Pairwise (· < ·)
  | [], _, _ => .nil
  | x :: l, h, nd => by
    obtain ⟨h1, h2⟩ := List.pairwise_cons.mp h
    obtain ⟨n1, n2⟩ := List.nodup_cons.mp nd
    refine List.pairwise_cons.mpr ⟨fun y hy => ?_, le_nd_lt h2 n2⟩
    have a := h1 y hy
    have b : x ≠ y := fun e => n1 (e ▸ hy)
    omega
/-- what sorted gives of the keys -/
theorem sorted_is {ks ns' xs : List Int} (hp : ns'.Perm ks) (hs : ns'.Pairwise (· ≤ ·)) (nd : ks.Nodup) (hx : xs.Pairwise (· < ·)) (hm : ∀ x, x ∈ ks ↔ x ∈ xs) : ns' = xs :=
  rise_one (le_nd_lt hs (hp.nodup_iff.mpr nd)) hx fun x => (hp.mem_iff).trans (hm x)
end L2.G42

set_option Elab.async false
set_option linter.all false
set_option maxRecDepth 100000
set_option maxHeartbeats 4000000
namespace L2.G42
open PySem PySem.Spec PyProof.Rows
/-- a def that lets nothing out, as a caller sees it: its name, its promise, the values that fill up -/
structure Cl (P : Program) (w : World) (K : PySem.W.Frag) (mg : Str → Option Value) (base : Heap) (k : Nat) (x : Str) (sp : Sp) (dvs : List V) : Prop where
  ex : ∃ (f : Addr) (fd : FuncData) (ps : List Str) (ds : List Value), FnOk P w K mg base CX0 k f fd ps sp ∧ mg x = some (.ref f) ∧ PySem.W.keepIn K (.ref f) = true ∧ Binds K fd ps ds ∧ Vals dvs ds
/-- a method of the class at C -/
structure Mt (P : Program) (w : World) (K : PySem.W.Frag) (mg : Str → Option Value) (base : Heap) (k : Nat) (C : Addr) (m : Str) (sp : Sp) (dvs : List V) : Prop where
  ex : ∃ (f : Addr) (fd : FuncData) (ps : List Str) (ds : List Value), Cls K C ∧ Meth K C m f ∧ FnOk P w K mg base CX0 k f fd ps sp ∧ Binds K fd ps ds ∧ Vals dvs ds
/-- the class at C, called -/
structure Nw (P : Program) (w : World) (K : PySem.W.Frag) (mg : Str → Option Value) (base : Heap) (k : Nat) (x : Str) (C : Addr) (sp : Sp) (dvs : List V) : Prop where
  ex : ∃ (f : Addr) (fd : FuncData) (ps : List Str) (ds : List Value), Mk K C f ∧ FnOk P w K mg base CX0 k f fd ps sp ∧ mg x = some (.ref C) ∧ Binds K fd ps ds ∧ Vals dvs ds
section
variable {X : Cx} {k j : Nat} {C : Addr} {x m : Str} {sp : Sp} {dvs : List V} {p pos apos : Pos} {e o : Expr} {es : List Expr} {ta : TE} {t : TA}
theorem pe_c (c : Cl X.prog X.w X.K X.mg X.base k x sp dvs) (hr : Room j X.A) (hk : k ≤ j) (hg : Gl X x) (ha : PA X (e :: es) t) (hdb : (x == ("__debug__" : Str)) = false := by decide)
    (he : starEach (e :: es) X.env = (false, eval e X.env) :: starEach es X.env := by rfl) (hpl : (backTo pos (starEach es X.env)).any (·.1) = false := by rfl) : PE X (.Call (.Name x p) (e :: es) [] pos) (tCall sp dvs E0 t) :=
  let ⟨_, _, _, _, F, hm, kp, b, d⟩ := c.ex
  pe_call F (hr.mono hk) hg hm kp b d pass0 ha hdb he hpl
theorem pe_c0 (c : Cl X.prog X.w X.K X.mg X.base k x sp dvs) (hr : Room j X.A) (hk : k ≤ j) (hg : Gl X x) (hdb : (x == ("__debug__" : Str)) = false := by decide) : PE X (.Call (.Name x p) [] [] pos) (tCall sp dvs E0 tNil) :=
  let ⟨_, _, _, _, F, hm, kp, b, d⟩ := c.ex
  pe_call0 F (hr.mono hk) hg hm kp b d pass0 hdb
theorem pe_mk (c : Nw X.prog X.w X.K X.mg X.base k x C sp dvs) (hr : Room j X.A) (hk : k + 1 ≤ j) (hg : Gl X x) (ha : PA X (e :: es) t) (hdb : (x == ("__debug__" : Str)) = false := by decide)
    (he : starEach (e :: es) X.env = (false, eval e X.env) :: starEach es X.env := by rfl) (hpl : (backTo pos (starEach es X.env)).any (·.1) = false := by rfl) : PE X (.Call (.Name x p) (e :: es) [] pos) (tMake C sp dvs E0 t) :=
  let ⟨_, _, _, _, M, F, hm, b, d⟩ := c.ex
  pe_make M F (hr.mono hk) hg hm b d pass0 ha hdb he hpl
theorem pe_mt {pl : Sem Bool} (c : Mt X.prog X.w X.K X.mg X.base k C m sp dvs) (hr : Room j X.A) (hk : k ≤ j) (he : PE X o ta) (ha : PA X (e :: es) t)
    (hst : starEach (e :: es) X.env = (false, eval e X.env) :: starEach es X.env := by rfl) (hpl : (backTo pos (starEach es X.env)).any (·.1) = false := by rfl)
    (ht : eval (.Call (.Attribute o m apos) (e :: es) [] pos) X.env = (eval o X.env >>= fun ov => standAt apos.atName >>= fun _ => holding [ov] (getMethod ov m pl) >>= fun q => callWith pos q.1 q.2 (backTo pos (starEach (e :: es) X.env)) (backToKw pos (keywordEach [] X.env))) := by rfl) :
    PE X (.Call (.Attribute o m apos) (e :: es) [] pos) (tMeth C m sp dvs E0 ta t) :=
  let ⟨_, _, _, _, cl, hm, F, b, d⟩ := c.ex
  pe_meth (pl := pl) he cl hm F (hr.mono hk) b d pass0 ha hst hpl ht
theorem pe_mt0 {pl : Sem Bool} (c : Mt X.prog X.w X.K X.mg X.base k C m sp dvs) (hr : Room j X.A) (hk : k ≤ j) (he : PE X o ta)
    (ht : eval (.Call (.Attribute o m apos) [] [] pos) X.env = (eval o X.env >>= fun ov => standAt apos.atName >>= fun _ => holding [ov] (getMethod ov m pl) >>= fun q => callWith pos q.1 q.2 (backTo pos (starEach [] X.env)) (backToKw pos (keywordEach [] X.env))) := by rfl) :
    PE X (.Call (.Attribute o m apos) [] [] pos) (tMeth C m sp dvs E0 ta tNil) :=
  let ⟨_, _, _, _, cl, hm, F, b, d⟩ := c.ex
  pe_meth0 (pl := pl) he cl hm F (hr.mono hk) b d pass0 ht
end
end L2.G42

set_option Elab.async false
set_option linter.all false
set_option maxRecDepth 100000
set_option maxHeartbeats 4000000
namespace L2.G42
open PySem PySem.Spec PyProof.Rows
/-- a promise that is kept where no repr is under way (repr of lists and tuples asks that) -/
structure FnG (P : Program) (w : World) (K : PySem.W.Frag) (mg : Str → Option Value) (base : Heap) (CX : CXT) (k : Nat) (f : Addr) (fd : FuncData) (ps : List Str) (sp : Sp) : Prop where
  len : ∀ vs H Q E, sp vs H Q E → vs.length = ps.length
  run : ∀ (A : Around) (outer : List Env) (s : Shared) (H : Hp) (args : Args) (us : List Value) (vs : List V) (Q : VK) (E : XK), Room k A → A.guards = some [] → Env0 P w K mg base A outer s H → BindsTo s fd args (ps.zip us) → Vals vs us → sp vs H Q E →
    codeAny (model P w) A (.call (.ref f) args) (CR CX outer P w H s Q E) s
section
variable {CX : CXT} {P : Program} {w : World} {K : PySem.W.Frag} {mg : Str → Option Value} {base : Heap} {k : Nat} {f : Addr} {fd : FuncData} {ps : List Str} {sp : Sp}
theorem FnG.ofOk (F : FnOk P w K mg base CX k f fd ps sp) : FnG P w K mg base CX k f fd ps sp := ⟨F.len, fun A outer s H args us vs Q E hr _ => F.run A outer s H args us vs Q E hr⟩
/-- from the body's walk -/
theorem fng_of {name qual : Str} {params : Arguments} {body : List Stmt} {scope : Scope} {dV kV doc pm cdv ct oc : Value} {an od : Option Addr} {osl : Array (Option Value)} {N : List Str}
    (lk : K.lookup f = some ⟨oc, od, .func (PySem.W.fnOf name qual params body scope dV kV doc pm an cdv ct), osl⟩) (hcd : PySem.W.codeIn K cdv qual = true) (S : FnScope N ps scope) (len : ∀ vs H Q E, sp vs H Q E → vs.length = ps.length)
    (walk : ∀ (A : Around) (outer : List Env) (s : Shared) (H : Hp) (vs : List V) (Q : VK) (E : XK), Room k (A.deeper (envOfC qual scope s.heap.objs.size f cdv)) → (A.deeper (envOfC qual scope s.heap.objs.size f cdv)).guards = some [] → sp vs H Q E →
      ∃ t, PSs (cxOf CX P w K mg base N qual scope f cdv A outer s H E) body t ∧ t { nx := fun _ H' => Q .non H', rt := Q } (start N vs) H) :
    FnG P w K mg base CX (k + 1) f (PySem.W.fnOf name qual params body scope dV kV doc pm an cdv ct) ps sp := by
  refine ⟨len, fun A outer s H args us vs Q E hr hg e0 hb r hsp => ?_⟩
  have lim : s.heap.NoLimit := e0.mod.nolimit.keeps fun b o e => (e0.bs b o e).1
  have KX : K.In s.heap := e0.mod.kin.keeps fun b o e => (e0.bs b o e).1
  refine codeAny_call_function hr.depth (KX _ _ lk) rfl S.co S.gen rfl (PySem.W.codeRec_of KX hcd) (hb _ _ _ _ (wpAny_newFunctionEnv_cells S.kind (fun y hy => ?_) fun env he s1 x => ?_))
  · exact (S.par y.1 (List.of_mem_zip hy).1).elim .inl fun q => .inr ⟨q, PySem.W.cellsFrom_some _ _ _ (.inl q)⟩
  subst he
  refine ⟨lim.keeps x.toInCall.keep, codeAny_func ?_⟩
  obtain ⟨t, ht, hq⟩ := walk A outer s H vs Q E (hr.deeper _) hg hsp
  have I := inv_start (CX := CX) (E := E) S hr.hd e0 (len _ _ _ _ hsp) r x
  refine wpAny_mono (ht.run [] s1 (start N vs) H _ I hq) (fun fl s' hs => ?_) fun e s' hs => hs
  match fl, hs with
  | .ret u, ⟨v, σ', H', J, rv, q⟩ => exact ⟨v, H', J.os, J.bare, J.base, J.hok, rv, q⟩
  | .next, ⟨σ', H', J, q⟩ => exact ⟨V.non, H', J.os, J.bare, J.base, J.hok, rfl, q⟩
  | .brk, ⟨_, _, _, q⟩ => exact q.elim
  | .cont, ⟨_, _, _, q⟩ => exact q.elim
/-- the same of a def that lets nothing out -/
theorem Fun.okG {x qual : Str} {st : Stmt} {N : List Str} (F : Fun K x qual st f fd) (S : FnScope N ps (defScope st)) (len : ∀ vs H Q E, sp vs H Q E → vs.length = ps.length)
    (walk : ∀ (cdv : Value) (A : Around) (outer : List Env) (s : Shared) (H : Hp) (vs : List V) (Q : VK) (E : XK), Room k (A.deeper (envOfC qual (defScope st) s.heap.objs.size f cdv)) → (A.deeper (envOfC qual (defScope st) s.heap.objs.size f cdv)).guards = some [] → sp vs H Q E →
      ∃ t, PSs (cxOf CX0 P w K mg base N qual (defScope st) f cdv A outer s H E).nox (defBody st) t ∧ t { nx := fun _ H' => Q .non H', rt := Q } (start N vs) H) : FnG P w K mg base CX0 (k + 1) f fd ps sp := by
  obtain ⟨oc, od, kV, doc, pm, an, cdv, ct, osl, rfl, lk, hcd⟩ := F.ex
  refine fng_of lk hcd S len fun A outer s H vs Q E hr hg hsp => ?_
  obtain ⟨t, h, q⟩ := walk cdv A outer s H vs Q E hr hg hsp
  exact ⟨t, h.nox, q⟩
end
/-- a def, as a caller sees it, where no repr is under way -/
structure ClG (P : Program) (w : World) (K : PySem.W.Frag) (mg : Str → Option Value) (base : Heap) (k : Nat) (x : Str) (sp : Sp) (dvs : List V) : Prop where
  ex : ∃ (f : Addr) (fd : FuncData) (ps : List Str) (ds : List Value), FnG P w K mg base CX0 k f fd ps sp ∧ mg x = some (.ref f) ∧ PySem.W.keepIn K (.ref f) = true ∧ Binds K fd ps ds ∧ Vals dvs ds
section
variable {X : Cx} {k j : Nat} {C : Addr} {x m : Str} {sp : Sp} {dvs : List V} {p pos apos : Pos} {e o : Expr} {es : List Expr} {ta : TE} {t : TA}
theorem pe_cg (c : ClG X.prog X.w X.K X.mg X.base k x sp dvs) (hr : Room j X.A) (hk : k ≤ j) (gd : X.A.guards = some []) (hg : Gl X x) (ha : PA X (e :: es) t) (hdb : (x == ("__debug__" : Str)) = false := by decide)
    (he : starEach (e :: es) X.env = (false, eval e X.env) :: starEach es X.env := by rfl) (hpl : (backTo pos (starEach es X.env)).any (·.1) = false := by rfl) : PE X (.Call (.Name x p) (e :: es) [] pos) (tCall sp dvs E0 t) := by
  obtain ⟨f, fd, ps, ds, F, hm, kp, hb, hd⟩ := c.ex
  refine ⟨fun pins s σ H Q I h => wpAny_Call_Name_kw (ld_glob I hg hm ?_ hdb)⟩
  refine PySem.W.callWith_K (h₀ := X.base) I.ok.mod.kin kp (thn (ha.run pos pins s σ H _ I h) fun us s1 ⟨vs, H1, I1, r, q⟩ => ⟨I1.kIn, ?_⟩) he hpl
  have r2 : Vals (vs ++ dvs) (us ++ ds) := r.append hd
  have hl : (us ++ ds).length = ps.length := r2.length.symm.trans (F.len _ _ _ _ q)
  refine wpAny_call (codeAny_mono (F.run X.A X.stack s1 H1 ⟨us, []⟩ (us ++ ds) (vs ++ dvs) Q E0 (hr.mono hk) gd I1.env0 (hb s1 us I1.kIn hl) r2 q) fun r s' hq => ?_)
  match r, hq with
  | .error _, hq => exact hq.elim
  | .ok (.ret u), hq => exact I1.after hq
  | .ok .next, hq => exact hq.elim
  | .ok .brk, hq => exact hq.elim
  | .ok .cont, hq => exact hq.elim
end
/-! the end of a law's row -/
theorem law_callG {P : Program} {w : World} {K : PySem.W.Frag} {mg mb : Str → Option Value} {k : Nat} {fa a : Addr} {fd : FuncData} {x : Str} {sp : Sp} {s₁ : Shared} {vs : List Value} {ns : List Int}
    (KX : K.In s₁.heap) (hns : s₁.heap.Ns mainGlobals mg) (hb : s₁.heap.Ns builtinsNs mb) (hbb : ∀ x : Str, x ≠ "__name__" → mb x = bootBuiltins x) (hlim : s₁.heap.NoLimit) (hg : s₁.gens = #[])
    (ha : s₁.heap.get? a = some { cls := .type "list", data := .seq vs.toArray }) (hi : IntsAre vs ns) (hl : ns.length ≤ sizeLine) (hr : Room k callerA)
    (F : ∀ base : Heap, K.In base → base.Ns mainGlobals mg → FnG P w K mg base CX0 k fa fd [x] sp) (hbind : ∀ (s : Shared) (u : Value), BindsTo s fd ⟨[u], []⟩ [(x, u)])
    (hsp : ∀ H : Hp, Only H → SqL K H a (ns.map V.int) → sp [.ref a] H (fun v _ => v = .bl true) fun _ _ _ => False) :
    codeAny (model P w) callerA (.call (.ref fa) ⟨[.ref a], []⟩) (fun r s' => r = .ok (.ret (.bool true)) ∧ OldK s₁.heap s'.heap ∧ s'.os = s₁.os ∧ AllBare s'.gens) s₁ := by
  have rv := vals_ints hi
  -- the script's list stands locked, or in the written part
  have core : ∀ H : Hp, Only H → SqL K H a (ns.map V.int) → HOk P w H s₁.heap → (∀ b, H b ≠ none → b = a) → (H a ≠ none → K.lookup a = none) →
      codeAny (model P w) callerA (.call (.ref fa) ⟨[.ref a], []⟩) (fun r s' => r = .ok (.ret (.bool true)) ∧ OldK s₁.heap s'.heap ∧ s'.os = s₁.os ∧ AllBare s'.gens) s₁ := by
    intro H only sq ok here notK
    have low : ∀ {b : Addr} {u : HO}, H b = some u → b = a := fun {b u} e => here b (by rw [e]; simp)
    have isD : ∀ {b : Addr} {o : Obj} {es : Array DictEntry} {ep : Nat}, s₁.heap.get? b = some o → o.data = .dict es ep → H b = none := fun {b o es ep} e d => by
      cases q : H b with
      | none => rfl
      | some u =>
        obtain rfl := low q
        obtain rfl := Option.some.inj (ha.symm.trans e)
        cases d
    have nsK : ∀ {b : Addr} {m : Str → Option Value}, s₁.heap.Ns b m → (hidT s₁.heap H).Ns b m := fun {b m} ⟨o, es, ep, e, d, r⟩ => ⟨o, es, ep, hidT_get e (isD e d), d, r⟩
    have inK : K.In (hidT s₁.heap H) := fun b o e => by
      refine hidT_get (KX b o e) ?_
      cases q : H b with
      | none => rfl
      | some u =>
        obtain rfl := low q
        rw [notK (by rw [q]; simp)] at e
        cases e
    have e0 : Env0 P w K mg (hidT s₁.heap H) callerA [] s₁ H :=
      ⟨rfl, ⟨inK, nsK hns, ⟨mb, nsK hb, hbb⟩, let ⟨mc, h1, h2⟩ := hlim; ⟨mc, nsK h1, h2⟩⟩, fun b o e => of_hidT e, Nat.le_of_eq (hidT_size _ _), trivial, (fun b z => absurd (show b ∈ ([] : List Addr) from z) List.not_mem_nil), ok, .of_eq hg⟩
    refine codeAny_mono ((F _ inK (nsK hns)).run callerA [] s₁ H ⟨[.ref a], []⟩ [.ref a] [.ref a] _ _ hr rfl e0 (hbind s₁ (.ref a)) (.cons rfl .nil) (hsp H only sq)) fun r s' h => ?_
    match r, h with
    | .error _, h => exact h.elim
    | .ok .next, h => exact h.elim
    | .ok .brk, h => exact h.elim
    | .ok .cont, h => exact h.elim
    | .ok (.ret u), ⟨v, H', os, bare, un, ok', r', q⟩ =>
      obtain rfl : v = .bl true := q
      obtain rfl : u = Value.bool true := r'
      refine ⟨rfl, OldK.of_keep fun b o e => ?_, os, bare⟩
      rcases only b with z | ⟨ob, xs, z⟩
      · exact un.keep b o e z (fun y => absurd (show b ∈ ([] : List Addr) from y) List.not_mem_nil) (fun y => absurd (show b ∈ ([] : List Addr) from y) List.not_mem_nil)
      · obtain ⟨e1, _⟩ := ok b _ z
        obtain ⟨e2, _⟩ := ok' b _ (un.frzs b ob _ z)
        obtain rfl := Option.some.inj (e.symm.trans e1)
        exact e2
  cases hk : K.lookup a with
  | some o =>
    obtain rfl := Option.some.inj (ha.symm.trans (KX a o hk))
    exact core (fun _ => none) (fun _ => .inl rfl) (.inr ⟨_, vs.toArray, _, hk, rfl, rfl, rfl, by rw [List.size_toArray, hi.length]; exact hl, by simpa using rv⟩) (fun b u z => by cases z) (fun b z => absurd rfl z) fun z => absurd rfl z
  | none =>
    refine core (fun b => if b = a then some (.frz { cls := .type "list", data := .seq vs.toArray } (.lst (ns.map V.int))) else none) (fun b => ?_) (.inl (.inr ⟨_, if_pos rfl⟩)) (fun b u z => ?_) (fun b z => ?_) fun _ => hk
    · by_cases e : b = a
      · exact .inr ⟨_, _, if_pos e⟩
      · exact .inl (if_neg e)
    · by_cases e : b = a
      · subst e
        obtain rfl := Option.some.inj ((if_pos rfl).symm.trans z)
        exact ⟨ha, by rw [List.length_map]; exact hl, vs, _, rv, ha⟩
      · exact absurd ((if_neg e).symm.trans z) (by simp)
    · exact Classical.byContradiction fun e => z (if_neg e)
theorem walk_ofG {l : PySem.W.OpenLaw} {n k : Nat} {q : Program} {loose : List Str} {XP : (Str → Option Value) → Heap → Prop} {YP : World → Heap → Prop} {d : DefRec} {K : Params → PySem.W.Frag} {sp : World → Sp} {x : Str}
    (hn : l.most = some n) (hn2 : n ≤ sizeLine) (hdf : d.params.defaults = []) (hr : Room k callerA) (hY : ∀ (w : World) (h : Heap), YP w h → (K w.params).In h)
    (F : ∀ (w : World) (mg : Str → Option Value) (fa : Addr) (h : Heap), (K w.params).In h → h.Ns mainGlobals mg → mg d.name = some (.ref fa) →
      ∃ fd : FuncData, (∀ (s : Shared) (u : Value), BindsTo s fd ⟨[u], []⟩ [(x, u)]) ∧ ∀ base : Heap, (K w.params).In base → base.Ns mainGlobals mg → FnG l.prog w (K w.params) mg base CX0 k fa fd [x] (sp w))
    (hsp : ∀ (w : World) (H : Hp) (a : Addr) (ns : List Int), ns.length ≤ n → Only H → SqL (K w.params) H a (ns.map V.int) → sp w [.ref a] H (fun v _ => v = .bl true) fun _ _ _ => False) :
    PySem.W.WalkO q loose XP YP l.row.toRowW d [] (fun f vs => PySem.call f vs) := by
  refine Att.attach_call hn hdf fun w s₀ s₁ mg mb fa o pm cd doc a vs ns G Y ho hd hcd hmg hobj hints hlen hg => ?_
  obtain ⟨fd, hb, hF⟩ := F w mg fa _ (hY w _ Y) G.T.g hmg
  exact law_callG (hY w _ Y) G.T.g G.T.b G.T.builtins G.T.nolimit hg hobj hints (Nat.le_trans hlen hn2) hr hF hb fun H hO hS => hsp w H a ns hlen hO hS
end L2.G42

set_option Elab.async false
set_option linter.all false
set_option maxRecDepth 100000
set_option maxHeartbeats 4000000
namespace L2.G42
open PySem PySem.Spec PyProof.Rows
section
variable {X : Cx} {CX : CXT} {n : Nat} {C f : Addr} {fd : FuncData} {ps : List Str} {sp : Sp} {E : XK}
/-! len(o), v in o by own methods -/
def rLenI (C : Addr) (sp : Sp) (E : XK) : List V → Hp → VK → Prop := fun xs H Q => ∃ a dx fs, xs = [.ref a] ∧ H a = some (.ins C dx fs) ∧ sp [.ref a] H (fun v H' => ∃ k : Nat, v = .int (k : Nat) ∧ k < 2 ^ 62 ∧ Q v H') E
theorem env_in1 {pins : List (Addr × Obj)} {σ : St} {H : Hp} {s : Shared} (I : Inv X pins σ H s) : Env0 X.prog X.w X.K X.mg X.base X.A.in1 X.stack s H := by
  have e := I.env0
  exact ⟨e.frames, e.mod, e.bs, e.bsz, e.funs, e.frf, e.hok, e.bare⟩
theorem call_lenI (F : FnOk X.prog X.w X.K X.mg X.base CX n f fd ps sp) (hs : PySem.W.findIn X.K (.ref C) "__len__" = some (some (.ref f))) (hf : PySem.W.isFn X.K (.ref f) = true) (hb : Binds X.K fd ps []) (hr : Room (n + 1) X.A) (hx : Passes CX X E) :
    CallR X (.builtin "len") (rLenI C sp E) := by
  intro pins s σ H xs us Q I r h
  obtain ⟨a, dx, fs, rfl, ha, hsp⟩ := h
  rw [Vals.ref1 r]
  obtain ⟨mA, J, _⟩ := ins_get I.hok ha
  obtain ⟨od, J, _⟩ := J.look
  obtain ⟨m, hF⟩ := I.fr
  refine PySem.W.len_K hF I.ok.mod.kin J hs hf ?_
  have hl := F.len _ _ _ _ hsp
  refine wpAny_call (codeAny_mono (F.run X.A.in1 X.stack s H ⟨[.ref a], []⟩ [.ref a] [.ref a] _ E hr.in1 (env_in1 I) (by
    have := hb s [.ref a] I.kIn (by simpa using hl)
    simpa using this) (.cons rfl .nil) hsp) fun r s' hq => ?_)
  match r, hq with
  | .error e, hq => exact hx pins σ H s e s' I hq
  | .ok .next, hq => exact hq.elim
  | .ok .brk, hq => exact hq.elim
  | .ok .cont, hq => exact hq.elim
  | .ok (.ret u), hq =>
    obtain ⟨z, H', I', rz, k, rfl, hk, q⟩ := I.after hq
    obtain ⟨t, rfl⟩ := rz
    exact ⟨⟨by omega, by omega⟩, .int k, H', I'.tok _, ⟨_, rfl⟩, q⟩
/-- v in o -/
def rInI (C : Addr) (sp : Sp) (E : XK) (neg : Bool) : R2 := fun x y H Q => ∃ a dx fs, y = .ref a ∧ H a = some (.ins C dx fs) ∧ sp [y, x] H (fun v H' => ∃ b : Bool, v = .bl b ∧ Q (.bl (if neg = true then !b else b)) H') E
theorem op_inI (F : FnOk X.prog X.w X.K X.mg X.base CX n f fd ps sp) (hs : PySem.W.findIn X.K (.ref C) "__contains__" = some (some (.ref f))) (hf : PySem.W.isFn X.K (.ref f) = true) (hb : Binds X.K fd ps []) (hr : Room n X.A) (hx : Passes CX X E) :
    OpR X (compareOp .In) (rInI C sp E false) := by
  intro pins s σ H x y u v Q I rx ry h
  obtain ⟨a, dx, fs, rfl, ha, hsp⟩ := h
  cases ry
  obtain ⟨mA, J, _⟩ := ins_get I.hok ha
  obtain ⟨od, J, _⟩ := J.look
  obtain ⟨m, hF⟩ := I.fr
  refine PySem.W.in_K hF I.ok.mod.kin J hs hf (wpAny_mono (own_call F hb hr hx I (x := .ref a) (y := x) rfl rx hsp) (fun r s' q => ?_) fun _ _ e => e)
  cases r <;> first | exact q.elim | skip
  all_goals obtain ⟨z, H', I', rz, b, rfl, q⟩ := q
  all_goals cases rz
  exact wpAny_truthy_bool ⟨.bl _, H', I', rfl, q⟩
/-! repr of data -/
def rReprD (K : PySem.W.Frag) : List V → Hp → VK → Prop := fun xs H Q => ∃ x d, xs = [x] ∧ Dp K H x d ∧ d.showable = true ∧ d.hasDict = false ∧ d.shown.length ≤ sizeLine ∧ d.depth ≤ 60 ∧ Q (.str d.shown) H
theorem call_reprD (hg : X.A.guards = some []) (hu : X.A.units + 64 < cLine) : CallR X (.builtin "repr") (rReprD X.K) := by
  intro pins s σ H xs us Q I r h
  obtain ⟨x, d, rfl, dp, sh, nd, sz, dep, q⟩ := h
  match us, r with
  | [u], .cons rx .nil =>
    cases dp with
    | non =>
      cases rx
      exact PySem.P.repr_of_none ⟨.str _, H, I.tok _, ⟨_, rfl⟩, q⟩
    | bl b =>
      cases rx
      exact PySem.P.repr_of_bool ⟨.str _, H, I.tok _, ⟨_, rfl⟩, q⟩
    | int i =>
      obtain ⟨t, rfl⟩ := rx
      exact PySem.P.repr_of_int (by simpa [PyData.showable] using sh) ⟨.str _, H, I.tok _, ⟨_, rfl⟩, q⟩
    | str z =>
      obtain ⟨t, rfl⟩ := rx
      exact PySem.P.repr_of_str ⟨.str _, H, I.tok _, ⟨_, rfl⟩, q⟩ sz
    | lst h1 h2 =>
      obtain ⟨as, rd⟩ := Dp.reads I _ _ u (.lst h1 h2) rx
      cases rx
      exact repr_of_reads' rd sh (fun e => by rw [nd] at e; cases e) hg (by omega) (fun _ _ e => e) (fun h' t tk k => ⟨.str _, H, I.kept k, ⟨_, rfl⟩, q⟩) sz
    | tup h1 h2 =>
      obtain ⟨as, rd⟩ := Dp.reads I _ _ u (.tup h1 h2) rx
      cases rx
      exact repr_of_reads' rd sh (fun e => by rw [nd] at e; cases e) hg (by omega) (fun _ _ e => e) (fun h' t tk k => ⟨.str _, H, I.kept k, ⟨_, rfl⟩, q⟩) sz
theorem call_reprK {K : PySem.W.Frag} (hK : X.K = K) (hg : X.A.guards = some []) (hu : X.A.units + 64 < cLine) : CallR X (.builtin "repr") (rReprD K) := by
  subst hK
  exact call_reprD hg hu
/-! a for over one of two kinds of things -/
theorem pi_or {tg e : Expr} {w1 w2 : TI} (h1 : PI X tg e w1) (h2 : PI X tg e w2) : PI X tg e (fun σ H R => w1 σ H R ∨ w2 σ H R) :=
  ⟨fun pins s σ H R I h => h.elim (h1.run pins s σ H R I) (h2.run pins s σ H R I)⟩
end
end L2.G42

set_option Elab.async false
set_option linter.all false
set_option maxRecDepth 100000
set_option maxHeartbeats 4000000
namespace L2.G42
open PySem PySem.Spec PyProof.Rows
/-! errors with one attribute: class B(NestedError): def __init__(self, f): self.f = f -/
/-- what its __init__ promises -/
def spErr (C : Addr) (f : Str) : Sp := fun vs H Q _ => ∃ (a : Addr) (x : V), vs = [.ref a, x] ∧ H a = some (exo a C none) ∧ ∀ d, H d = none → d ≠ a → Q .non (upd (upd H d (exd d [(f, x)])) a (exo a C (some d)))
/-- the class, as a raise sees it -/
structure Er (P : Program) (w : World) (K : PySem.W.Frag) (mg : Str → Option Value) (base : Heap) (k : Nat) (x : Str) (C : Addr) (f : Str) : Prop where
  ex : ∃ (fI : Addr) (fd : FuncData) (ps : List Str), FnOk P w K mg base CX0 k fI fd ps (spErr C f) ∧ PySem.W.findIn K (.ref C) "__init__" = some (some (.ref fI)) ∧ PySem.W.typeIn K (.ref fI) = some (.type "function") ∧ Binds K fd ps []
  ok : OexC K C
  gl : mg x = some (.ref C)
theorem upd_err {H : Hp} {a d : Addr} {o1 o2 o3 u : HO} (ha : H a = none) (hd : d ≠ a) : upd (del (upd (upd (upd H a o1) d o2) a o3) a) d u = upd H d u := by
  funext b
  by_cases h1 : b = d
  · subst h1; rw [upd_same, upd_same]
  · rw [upd_ne h1, upd_ne h1]
    by_cases h2 : b = a
    · subst h2; rw [del_same, ha]
    · rw [del_ne h2, upd_ne h2, upd_ne h1, upd_ne h2]
/-- raise x(e) -/
def tRaise1 (C : Addr) (f : Str) (W : WX) (te : TE) : TS := fun _ σ H => tMkO C (spErr C f) [] (tCons te tNil) σ H fun cls d H' => W cls d σ H'
theorem err_one {C : Addr} {f : Str} {v : V} {H : Hp} {Q : XK} (k : ∀ d, H d = none → Q (.ref C) (some d) (upd H d (.xd [(f, v)]))) : [v].length ≤ 1000 ∧ ∀ a, H a = none → spErr C f (.ref a :: ([v] ++ [])) (upd H a (exo a C none))
    (fun z H2 => z = .non ∧ ∃ (d : Addr) (fs : List (Str × V)), H2 a = some (exo a C (some d)) ∧ H2 d = some (exd d fs) ∧ H d = none ∧ Q (.ref C) (some d) (upd (del H2 a) d (.xd fs))) (fun _ _ _ => False) := by
  refine ⟨by show 1 ≤ 1000; decide, fun a ha => ⟨a, v, rfl, upd_same, fun d hd ne => ⟨rfl, d, [(f, v)], upd_same, ?_, ?_, ?_⟩⟩⟩
  · rw [upd_ne ne, upd_same]
  · rw [upd_ne ne] at hd
    exact hd
  · rw [upd_ne ne] at hd
    rw [upd_err ha ne]
    exact k d hd
section
variable {X : Cx} {k j : Nat} {C : Addr} {x f m : Str} {sp : Sp} {dvs : List V} {p pos pos2 apos : Pos} {e o : Expr} {es : List Expr} {ta te : TE} {t : TA} {W : WX} {E : St → XK}
theorem ps_raise1 (c : Er X.prog X.w X.K X.mg X.base k x C f) (hc : X.calm = true) (tk : Takes X W) (hr : Room j X.A) (hk : k + 1 ≤ j) (hg : Gl X x) (he : PE X e te) (hdb : (x == ("__debug__" : Str)) = false := by decide)
    (hst : starEach (e :: []) X.env = (false, eval e X.env) :: starEach [] X.env := by rfl) : PS X (.Raise (some (.Call (.Name x p) [e] [] pos)) none pos2) (tRaise1 C f W te) := by
  obtain ⟨fI, fd, ps, F, h1, h2, hb⟩ := c.ex
  exact ps_raise hc tk (pmk_oex (dvs := []) c.ok h1 h2 F (hr.mono hk) hb .nil pass0 hg c.gl (pa_cons he pa_nil hst) hdb hst rfl)
/-! calls whose errors are wished for at the slots -/
/-- a method that may raise -/
structure MtX (P : Program) (w : World) (K : PySem.W.Frag) (mg : Str → Option Value) (base : Heap) (k : Nat) (C : Addr) (m : Str) (sp : Sp) (dvs : List V) : Prop where
  ex : ∃ (f : Addr) (fd : FuncData) (ps : List Str) (ds : List Value), Cls K C ∧ Meth K C m f ∧ FnOk P w K mg base (L2.CX P w) k f fd ps sp ∧ Binds K fd ps ds ∧ Vals dvs ds
/-- a class whose __init__ may raise -/
structure NwX (P : Program) (w : World) (K : PySem.W.Frag) (mg : Str → Option Value) (base : Heap) (k : Nat) (x : Str) (C : Addr) (sp : Sp) (dvs : List V) : Prop where
  ex : ∃ (f : Addr) (fd : FuncData) (ps : List Str) (ds : List Value), Mk K C f ∧ FnOk P w K mg base (L2.CX P w) k f fd ps sp ∧ mg x = some (.ref C) ∧ Binds K fd ps ds ∧ Vals dvs ds
/-- a def that may raise -/
structure ClX (P : Program) (w : World) (K : PySem.W.Frag) (mg : Str → Option Value) (base : Heap) (k : Nat) (x : Str) (sp : Sp) (dvs : List V) : Prop where
  ex : ∃ (f : Addr) (fd : FuncData) (ps : List Str) (ds : List Value), FnOk P w K mg base (L2.CX P w) k f fd ps sp ∧ mg x = some (.ref f) ∧ PySem.W.keepIn K (.ref f) = true ∧ Binds K fd ps ds ∧ Vals dvs ds
def tMethS (C : Addr) (m : Str) (sp : Sp) (dvs : List V) (E : St → XK) (ta : TE) (t : TA) : TE := fun σ H Q => ta σ H fun x H1 => ∃ a dx fs, x = .ref a ∧ H1 a = some (.ins C dx fs) ∧ fs.lookup m = none ∧
  t σ H1 fun vs H2 => sp (x :: (vs ++ dvs)) H2 Q (E σ)
def tMakeS (C : Addr) (sp : Sp) (dvs : List V) (E : St → XK) (t : TA) : TE := fun σ H Q => t σ H fun vs H1 => ∀ x dx, H1 x = none → H1 dx = none → dx ≠ x →
  sp (.ref x :: (vs ++ dvs)) (upd (upd H1 dx (.own x)) x (.ins C dx [])) (fun v H2 => v = .non ∧ Q (.ref x) H2) (E σ)
/-- no error leaves -/
theorem pe_mtx {pl : Sem Bool} (c : MtX X.prog X.w X.K X.mg X.base k C m sp dvs) (hr : Room j X.A) (hk : k ≤ j) (he : PE X o ta) (ha : PA X (e :: es) t)
    (hst : starEach (e :: es) X.env = (false, eval e X.env) :: starEach es X.env := by rfl) (hpl : (backTo pos (starEach es X.env)).any (·.1) = false := by rfl)
    (ht : eval (.Call (.Attribute o m apos) (e :: es) [] pos) X.env = (eval o X.env >>= fun ov => standAt apos.atName >>= fun _ => holding [ov] (getMethod ov m pl) >>= fun q => callWith pos q.1 q.2 (backTo pos (starEach (e :: es) X.env)) (backToKw pos (keywordEach [] X.env))) := by rfl) :
    PE X (.Call (.Attribute o m apos) (e :: es) [] pos) (tMeth C m sp dvs E0 ta t) :=
  let ⟨_, _, _, _, cl, hm, F, b, d⟩ := c.ex
  pe_meth (pl := pl) he cl hm F (hr.mono hk) b d passL ha hst hpl ht
theorem pe_mkx (c : NwX X.prog X.w X.K X.mg X.base k x C sp dvs) (hr : Room j X.A) (hk : k + 1 ≤ j) (hg : Gl X x) (ha : PA X (e :: es) t) (hdb : (x == ("__debug__" : Str)) = false := by decide)
    (he : starEach (e :: es) X.env = (false, eval e X.env) :: starEach es X.env := by rfl) (hpl : (backTo pos (starEach es X.env)).any (·.1) = false := by rfl) : PE X (.Call (.Name x p) (e :: es) [] pos) (tMake C sp dvs E0 t) :=
  let ⟨_, _, _, _, M, F, hm, b, d⟩ := c.ex
  pe_make M F (hr.mono hk) hg hm b d passL ha hdb he hpl
theorem pe_mkx0 (c : NwX X.prog X.w X.K X.mg X.base k x C sp dvs) (hr : Room j X.A) (hk : k + 1 ≤ j) (hg : Gl X x) (hdb : (x == ("__debug__" : Str)) = false := by decide) : PE X (.Call (.Name x p) [] [] pos) (tMake C sp dvs E0 tNil) :=
  let ⟨_, _, _, _, M, F, hm, b, d⟩ := c.ex
  pe_make0 M F (hr.mono hk) hg hm b d passL hdb
/-- in a try -/
theorem run_fnE {CX : CXT} {f : Addr} {fd : FuncData} {ps : List Str} {ds : List Value} {pins : List (Addr × Obj)} {σ : St} {H : Hp} {s : Shared} {Q : VK} {us : List Value} {vs : List V} (F : FnOk X.prog X.w X.K X.mg X.base CX k f fd ps sp) (hr : Room k X.A) (hb : Binds X.K fd ps ds) (hd : Vals dvs ds) (hx : PassesAt CX X σ (E σ))
    (I : Inv X pins σ H s) (r : Vals vs us) (h : sp (vs ++ dvs) H Q (E σ)) : wpAny (model X.prog X.w) X.A (call (.ref f) us) (EP X pins σ Q) X.xe s := by
  have r2 : Vals (vs ++ dvs) (us ++ ds) := r.append hd
  have hl : (us ++ ds).length = ps.length := r2.length.symm.trans (F.len _ _ _ _ h)
  refine wpAny_call (codeAny_mono (F.run X.A X.stack s H ⟨us, []⟩ (us ++ ds) (vs ++ dvs) Q (E σ) hr I.env0 (hb s us I.kIn hl) r2 h) fun r s' hq => ?_)
  match r, hq with
  | .error e, hq => exact hx pins H s e s' I hq
  | .ok (.ret u), hq => exact I.after hq
  | .ok .next, hq => exact hq.elim
  | .ok .brk, hq => exact hq.elim
  | .ok .cont, hq => exact hq.elim
theorem pe_mtS {pl : Sem Bool} (c : MtX X.prog X.w X.K X.mg X.base k C m sp dvs) (tk : Takes X W) (hr : Room j X.A) (hk : k ≤ j) (he : PE X o ta) (ha : PA X (e :: es) t)
    (hst : starEach (e :: es) X.env = (false, eval e X.env) :: starEach es X.env := by rfl) (hpl : (backTo pos (starEach es X.env)).any (·.1) = false := by rfl)
    (ht : eval (.Call (.Attribute o m apos) (e :: es) [] pos) X.env = (eval o X.env >>= fun ov => standAt apos.atName >>= fun _ => holding [ov] (getMethod ov m pl) >>= fun q => callWith pos q.1 q.2 (backTo pos (starEach (e :: es) X.env)) (backToKw pos (keywordEach [] X.env))) := by rfl) :
    PE X (.Call (.Attribute o m apos) (e :: es) [] pos) (tMethS C m sp dvs (WE W) ta t) := by
  obtain ⟨f, fd, ps, ds, cl, hm, F, hb, hd⟩ := c.ex
  refine ⟨fun pins s σ H Q I h => ?_⟩
  refine PySem.W.methodCall_KW (pl := pl) (thn (he.run pins s σ H _ I h) fun u s1 ⟨x, H1, I1, rx, a, dx, fs, ex, ea, l, q⟩ => ?_) ht
  subst ex
  obtain rfl : u = Value.ref a := rx
  refine getmeth_ok I1 ea cl hm l ?_
  refine PySem.W.callWith_K (first := [.ref a]) (h₀ := X.base) I.ok.mod.kin hm.kp (thn (ha.run pos pins s1 σ H1 _ I1 q) fun us s2 ⟨vs, H2, I2, r, q2⟩ => ⟨I2.kIn, ?_⟩) hst hpl
  exact run_fnE (us := .ref a :: us) (vs := .ref a :: vs) F (hr.mono hk) hb hd (passAt tk σ) I2 (.cons rfl r) q2
theorem pe_cS (c : ClX X.prog X.w X.K X.mg X.base k x sp dvs) (tk : Takes X W) (hr : Room j X.A) (hk : k ≤ j) (hg : Gl X x) (ha : PA X (e :: es) t) (hdb : (x == ("__debug__" : Str)) = false := by decide)
    (he : starEach (e :: es) X.env = (false, eval e X.env) :: starEach es X.env := by rfl) (hpl : (backTo pos (starEach es X.env)).any (·.1) = false := by rfl) :
    PE X (.Call (.Name x p) (e :: es) [] pos) (fun σ H Q => t σ H fun vs H1 => sp (vs ++ dvs) H1 Q (WE W σ)) := by
  obtain ⟨f, fd, ps, ds, F, hm, kp, hb, hd⟩ := c.ex
  refine ⟨fun pins s σ H Q I h => wpAny_Call_Name_kw (ld_glob I hg hm ?_ hdb)⟩
  refine PySem.W.callWith_K (h₀ := X.base) I.ok.mod.kin kp (thn (ha.run pos pins s σ H _ I h) fun us s1 ⟨vs, H1, I1, r, q⟩ => ⟨I1.kIn, ?_⟩) he hpl
  exact run_fnE F (hr.mono hk) hb hd (passAt tk σ) I1 r q
theorem pe_mkS (c : NwX X.prog X.w X.K X.mg X.base k x C sp dvs) (tk : Takes X W) (hr : Room j X.A) (hk : k + 1 ≤ j) (hg : Gl X x) (ha : PA X (e :: es) t) (hdb : (x == ("__debug__" : Str)) = false := by decide)
    (he : starEach (e :: es) X.env = (false, eval e X.env) :: starEach es X.env := by rfl) (hpl : (backTo pos (starEach es X.env)).any (·.1) = false := by rfl) : PE X (.Call (.Name x p) (e :: es) [] pos) (tMakeS C sp dvs (WE W) t) := by
  obtain ⟨f, fd, ps, ds, M, F, hm, hb, hd⟩ := c.ex
  refine ⟨fun pins s σ H Q I h => wpAny_Call_Name_kw (ld_glob I hg hm ?_ hdb)⟩
  refine PySem.W.callWith_K (h₀ := X.base) I.ok.mod.kin M.kp (thn (ha.run pos pins s σ H _ I h) fun us s1 ⟨vs, H1, I1, r, q1⟩ => ⟨I1.kIn, ?_⟩) he hpl
  have hq := q1 (s1.heap.objs.size + 1) s1.heap.objs.size (I1.hok.fresh (Nat.le_succ _)) (I1.hok.fresh (Nat.le_refl _)) (Nat.ne_of_lt (Nat.lt_succ_self _))
  have I2 := Inv.made (C := C) I1
  have r2 : Vals (V.ref (s1.heap.objs.size + 1) :: (vs ++ dvs)) (Value.ref (s1.heap.objs.size + 1) :: (us ++ ds)) := .cons rfl (r.append hd)
  have hl : (Value.ref (s1.heap.objs.size + 1) :: us ++ ds).length = ps.length := r2.length.symm.trans (F.len _ _ _ _ hq)
  refine wpAny_call (make_map (f := f) I1.kIn M.makes M.init (beq_iff_eq.mp M.fn) (codeAny_mono (F.run _ X.stack _ _ ⟨Value.ref (s1.heap.objs.size + 1) :: us, []⟩ (Value.ref (s1.heap.objs.size + 1) :: (us ++ ds)) _ _ (WE W σ) ((hr.mono hk).make C us [])
    (I2.env0.make C us []) (hb _ (Value.ref (s1.heap.objs.size + 1) :: us) I2.kIn hl) r2 hq) fun r s' hq' => ?_))
  match r, hq' with
  | .error er, hq' => exact passAt tk σ pins _ _ er s' I2 hq'
  | .ok .next, hq' => exact hq'.elim
  | .ok .brk, hq' => exact hq'.elim
  | .ok .cont, hq' => exact hq'.elim
  | .ok (.ret u), hq' =>
    obtain ⟨v, H', I3, rv, rfl, q3⟩ := I2.after hq'
    exact ⟨rv, ⟨V.ref (s1.heap.objs.size + 1), H', I3, rfl, q3⟩⟩
end
/-- isinstance(e, c), e the error that the suite holds, its dict at d -/
structure ExcD (K : PySem.W.Frag) (D : Addr) : Prop where
  hc : (PySem.W.clsIn K D).isSome = true
  hg : PySem.W.findIn K (.ref D) "__getattribute__" = some (some (.builtin "BaseException.__getattribute__"))
  hk : PySem.W.findIn K (.ref D) "__getattr__" = some none
  hs : PySem.W.subIn K (.ref D) (.type "BaseException") = some true
  ha : PySem.W.findIn K (.ref D) "__class__" = some (some (.builtin "object.__class__"))
  hn : PySem.W.specialIn K (.builtin "object.__class__") "__get__" = some (some (.builtin "getset_descriptor.__get__"))
  ht : PySem.W.takesIn K (.builtin "object.__class__") = some true
  hm : PySem.W.mroIn K D (.type "object") = some true
def rIsD (K : PySem.W.Frag) (D a : Addr) (cls : Value) (d : Option Addr) : List V → Hp → VK → Prop := fun xs H Q => ∃ (c : V) (cv : Value) (b : Bool) (dd : Addr) (fs : List (Str × V)), xs = [.ref a, c] ∧ cls = .ref D ∧ d = some dd ∧ H dd = some (.xd fs) ∧ (∀ u, RelV c u → u = cv) ∧ PySem.W.kitOne K (.ref D) cv = some b ∧ Q (.bl b) H
theorem call_isD {X : Cx} {a D : Addr} {oe : Obj} {cls : Value} {d : Option Addr} {pn : List (Addr × Obj)} (C : ExcD X.K D) (hz : Zc cls d oe) (hf : ∃ vs, oe.data = .fields vs) : CallR (X.suite a ((a, oe) :: pn)) (.builtin "isinstance") (rIsD X.K D a cls d) := by
  intro pins s σ H xs us Q I r h
  obtain ⟨c, cv, b, dd, fs, rfl, rfl, rfl, hd, hcv, e, q⟩ := h
  match us, r with
  | [u, uc], .cons rx (.cons rc .nil) =>
    cases rx
    obtain rfl := hcv _ rc
    obtain ⟨hget, _⟩ := I.pin (a, oe) (List.mem_append.mpr (.inl List.mem_cons_self))
    obtain ⟨vs, hv⟩ := hf
    have hx : ObjOk X.prog X.w H s.heap dd (.xd fs) := I.hok dd _ hd
    obtain ⟨mA, hns, _⟩ := hx
    obtain ⟨od, ho, _⟩ := lookIn_ns hns
    have J : PySem.W.InstAt s.heap a oe D (some od) := ⟨hget, hz.1, by unfold PySem.W.notCls; rw [hv] <;> rfl, by rw [hz.2]; exact ho⟩
    exact PySem.W.kia_one (PySem.W.kitx_exc C.hc C.hg C.hk C.hs C.ha C.hn C.ht C.hm) I.kIn J e (fun z => nomatch z) fun tk => ⟨.bl b, H, I.kept (t' := tk) fun _ _ z => z, rfl, q⟩
end L2.G42

set_option Elab.async false
set_option linter.all false
set_option maxRecDepth 100000
set_option maxHeartbeats 4000000
namespace L2.G42
open PySem PySem.Spec
open PyProof.Rows (boot_isinstance boot_int boot_bool boot_list boot_set boot_abs boot_enumerate)
theorem boot_sorted : bootBuiltins "sorted" = some (.builtin "sorted") := by decide +kernel
theorem boot_max : bootBuiltins "max" = some (.builtin "max") := by decide +kernel
theorem boot_min : bootBuiltins "min" = some (.builtin "min") := by decide +kernel
theorem boot_any : bootBuiltins "any" = some (.builtin "any") := by decide +kernel
theorem boot_repr : bootBuiltins "repr" = some (.builtin "repr") := by decide +kernel
/-- names of the module that are the built-in ones -/
structure Bn (mg : Str → Option Value) : Prop where
  isi : mg "isinstance" = none
  int : mg "int" = none
  bool : mg "bool" = none
  list : mg "list" = none
  sorted : mg "sorted" = none
  len : mg "len" = none
  set : mg "set" = none
  range : mg "range" = none
  enumerate : mg "enumerate" = none
  max : mg "max" = none
  min : mg "min" = none
  abs : mg "abs" = none
  any : mg "any" = none
  all : mg "all" = none
  tuple : mg "tuple" = none
  str : mg "str" = none
  dict : mg "dict" = none
  repr : mg "repr" = none
/-- what a bag may hold -/
def Fits (n : Int) : Prop := -(10 ^ 30) ≤ n ∧ n ≤ 10 ^ 30
/-- the heap has grown, or changed at the addresses of S alone -/
def But (S : Addr → Prop) (H H' : Hp) : Prop := ∀ b o, H b = some o → ¬ S b → H' b = some o
theorem But.refl {S : Addr → Prop} {H : Hp} : But S H H := fun _ _ h _ => h
theorem But.trans {S : Addr → Prop} {H H1 H2 : Hp} (a : But S H H1) (b : But S H1 H2) : But S H H2 := fun x o h n => b x o (a x o h n) n
theorem But.new {S : Addr → Prop} {H : Hp} {p : Addr} {o : HO} (h : H p = none) : But S H (upd H p o) := fun a u e _ => by
  rw [upd_ne (ne_of_none e h)]
  exact e
theorem But.at {S : Addr → Prop} {H : Hp} {p : Addr} {o : HO} (h : S p) : But S H (upd H p o) := fun a u e n => by
  rw [upd_ne (fun q => n (by rw [q]; exact h))]
  exact e
theorem But.mono {S S' : Addr → Prop} {H H' : Hp} (a : But S H H') (h : ∀ x, S x → S' x) : But S' H H' := fun x o e n => a x o e fun q => n (h x q)
/-- a change of what was not there before -/
theorem But.fresh {S : Addr → Prop} {H H' : Hp} {p : Addr} {o : HO} (a : But S H H') (h : H p = none) : But S H (upd H' p o) := fun x u e n => by
  rw [upd_ne (ne_of_none e h)]
  exact a x u e n
theorem But.free {H H' : Hp} (a : But (fun _ => False) H H') {p : Addr} (h : H' p = none) : H p = none := by
  cases e : H p with
  | none => rfl
  | some o => rw [a p o e id] at h; cases h
theorem szl {n : Nat} (h : n ≤ 100000) : n < sizeLine := Nat.lt_of_le_of_lt h (by decide)
theorem szle {n : Nat} (h : n ≤ 100000) : n ≤ sizeLine := Nat.le_of_lt (szl h)
theorem map_int_inj : ∀ {l m : List Int}, l.map V.int = m.map V.int → l = m
  | [], [], _ => rfl
  | [], _ :: _, h => by cases h
  | _ :: _, [], h => by cases h
  | x :: l, y :: m, h => by
    injection h with h1 h2
    injection h1 with h1
    rw [h1, map_int_inj h2]
theorem filter_take {α : Type} (f : α → Bool) (l : List α) {i : Nat} {x : α} (h : l[i]? = some x) : (l.take (i + 1)).filter f = (l.take i).filter f ++ if f x then [x] else [] := by
  rw [List.take_add_one, h, List.filter_append]
  congr 1
  show List.filter f [x] = _
  cases e : f x <;> simp [e]
theorem upd_twice (H : Hp) (a : Addr) (o o' : HO) : upd (upd H a o) a o' = upd H a o' := by
  funext b
  by_cases h : b = a
  · subst h; rw [upd_same, upd_same]
  · rw [upd_ne h, upd_ne h, upd_ne h]
abbrev src (c st n : Int) : HO := .lst [.int c, .int st, .int n]
def SrcAt (H : Hp) (a : Addr) : Prop := ∃ c st n : Int, H a = some (src c st n)
theorem src0 {K : PySem.W.Frag} {H : Hp} {a : Addr} {c st n : Int} (h : H a = some (src c st n)) : SqL K H a [.int c, .int st, .int n] := SqL.of h
theorem SqL.grow {K : PySem.W.Frag} {H H' : Hp} {a : Addr} {xs : List V} (h : SqL K H a xs) (g : But (fun _ => False) H H') : SqL K H' a xs := by
  rcases h with (h | ⟨o, h⟩) | h
  · exact .inl (.inl (g _ _ h id))
  · exact .inl (.inr ⟨o, g _ _ h id⟩)
  · exact .inr h
theorem cut_mem {xs : List V} {lo hi : Option Int} {x : V} (h : x ∈ cutV xs lo hi) : x ∈ xs := List.mem_of_mem_drop (List.mem_of_mem_take h)
theorem cut_to {xs : List V} {k : Nat} : cutV xs none (some (k : Int)) = xs.take k := by
  unfold cutV HT.sIx
  simp
  rw [if_neg (by omega)]
  omega
theorem take_map (ns : List Int) (k : Nat) : (ns.map V.int).take k = (ns.take k).map V.int := (List.map_take).symm
theorem SrcAt.but {H H' : Hp} {a : Addr} (h : SrcAt H a) (g : But (fun _ => False) H H') : SrcAt H' a := let ⟨c, st, n, e⟩ := h; ⟨c, st, n, g _ _ e id⟩
section
variable {K : PySem.W.Frag} {w : World}
theorem set_sorted {H : Hp} {Q : VK} {l : Addr} {ns xs : List Int} (hl : SqL K H l (ns.map V.int)) (few : ns.length < 64) (hx : xs.Pairwise (· < ·)) (hm : ∀ x, x ∈ xs ↔ x ∈ ns)
    (k : ∀ (q : Addr) (H' : Hp), H q = none → H' q = some (.lst (xs.map V.int)) → But (fun _ => False) H H' → Q (.ref q) H') :
    rSetL K w [.ref l] H fun v H1 => rSortedSet w [v] H1 Q := by
  refine ⟨l, ns, rfl, hl, by omega, fun p c hp hc => ⟨p, _, c, rfl, upd_same, by omega, fun ys q hy hz _ hq => ?_⟩⟩
  have e : ys = xs := rise_one hy hx fun x => by rw [hz, hm]; simp
  subst e
  have hq0 : H q = none := But.free (But.new hp) hq
  exact k q _ hq0 upd_same ((But.new hp).trans (But.new hq))
theorem inV_int (n : Int) (ys : List Int) : inV (.int n) (ys.map V.int) = decide (n ∈ ys) := by
  unfold inV
  rw [List.any_map, Bool.eq_iff_iff, List.any_eq_true, decide_eq_true_eq]
  constructor
  · rintro ⟨x, hx, e⟩
    have : x = n := by simpa [eqV] using e
    exact this ▸ hx
  · intro h
    exact ⟨n, h, by simp [eqV]⟩
theorem flat_ints (ys : List Int) : (ys.map V.int).all flatV = true := by
  rw [List.all_map, List.all_eq_true]
  intro x _
  rfl
end
def spTake : Sp := fun vs H Q _ => ∃ (a : Addr) (many : Int), vs = [.ref a, .int many] ∧ 0 < many ∧ many.natAbs.log2 < 9000 ∧ SrcAt H a ∧ ∀ r c st n : Int, 0 ≤ r → r < many → Q (.int r) (upd H a (src c st n))
def spSource (K : PySem.W.Frag) : Sp := fun vs H Q _ => ∃ (a : Addr) (ns : List Int) (z : Int), vs = [.ref a, .int z] ∧ 0 ≤ z ∧ SqL K H a (ns.map V.int) ∧ ∀ (p : Addr) (H' : Hp), H p = none → SrcAt H' p → But (fun _ => False) H H' → Q (.ref p) H'
def spValue : Sp := fun vs H Q _ => ∃ a : Addr, vs = [.ref a] ∧ SrcAt H a ∧ ∀ v c st n : Int, Fits v → Q (.int v) (upd H a (src c st n))
def spValues : Sp := fun vs H Q _ => ∃ (a : Addr) (most : Nat), vs = [.ref a, .int most] ∧ most ≤ 100 ∧ SrcAt H a ∧
  ∀ (p : Addr) (ns : List Int) (H' : Hp), H p = none → H' p = some (.lst (ns.map V.int)) → ns.length ≤ most + 1 → (∀ n ∈ ns, Fits n) → SrcAt H' a → But (· = a) H H' → Q (.ref p) H'
end L2.G42

set_option Elab.async false
set_option linter.all false
set_option maxRecDepth 100000
set_option maxHeartbeats 4000000
namespace L2.G42
open PySem PySem.Spec PySem.StrLaws
/-! data: what the draws of any value give -/
/-- G is a part of H -/
def Part (G H : Hp) : Prop := ∀ b o, G b = some o → H b = some o
theorem Part.refl {H : Hp} : Part H H := fun _ _ h => h
theorem Part.trans {G H J : Hp} (a : Part G H) (b : Part H J) : Part G J := fun x o h => b x o (a x o h)
theorem Part.upd {G H : Hp} {a : Addr} {o : HO} (p : Part G H) (h : G a = none) : Part G (upd H a o) := fun x u e => by
  rw [upd_ne (ne_of_none e h)]
  exact p x u e
theorem Part.both {G H : Hp} {a : Addr} {o : HO} (p : Part G H) : Part (L2.upd G a o) (L2.upd H a o) := fun x u e => by
  by_cases h : x = a
  · subst h; rw [upd_same] at e ⊢; exact e
  · rw [upd_ne h] at e ⊢; exact p x u e
theorem Part.add {G H : Hp} {a : Addr} {o : HO} (p : Part G H) (h : H a = some o) : Part (L2.upd G a o) H := fun x u e => by
  by_cases hx : x = a
  · subst hx; rw [upd_same] at e; exact h.trans e
  · rw [upd_ne hx] at e; exact p x u e
theorem Part.but {G H H' : Hp} {S : Addr → Prop} (p : Part G H) (b : But S H H') (h : ∀ x, S x → G x = none) : Part G H' := fun x o e => b x o (p x o e) fun s => by
  rw [h x s] at e
  cases e
theorem Part.grow {G H H' : Hp} (p : Part G H) (b : But (fun _ => False) H H') : Part G H' := p.but b fun _ h => h.elim
theorem Part.free {G H : Hp} (p : Part G H) {a : Addr} (h : H a = none) : G a = none := by
  cases e : G a with
  | none => rfl
  | some o => rw [p a o e] at h; cases h
theorem SqL.part {K : PySem.W.Frag} {G H : Hp} {a : Addr} {xs : List V} (h : SqL K G a xs) (p : Part G H) : SqL K H a xs := by
  rcases h with (h | ⟨o, h⟩) | h
  · exact .inl (.inl (p _ _ h))
  · exact .inl (.inr ⟨o, p _ _ h⟩)
  · exact .inr h
theorem SqT.part {K : PySem.W.Frag} {G H : Hp} {a : Addr} {xs : List V} (h : SqT K G a xs) (p : Part G H) : SqT K H a xs := by
  rcases h with (h | ⟨o, h⟩) | h
  · exact .inl (.inl (p _ _ h))
  · exact .inl (.inr ⟨o, p _ _ h⟩)
  · exact .inr h
mutual
theorem Dp.part {K : PySem.W.Frag} {G H : Hp} (p : Part G H) : ∀ (d : PyData) (v : V), Dp K G v d → Dp K H v d
  | .none, _, h => by cases h; exact .non
  | .bool b, _, h => by cases h; exact .bl b
  | .int i, _, h => by cases h; exact .int i
  | .str x, _, h => by cases h; exact .str x
  | .list ds, _, h => by
    cases h with
    | lst a b => exact .lst (SqL.part a p) (DpAll.part p ds _ b)
  | .tuple ds, _, h => by
    cases h with
    | tup a b => exact .tup (SqT.part a p) (DpAll.part p ds _ b)
  | .dict _, _, h => by cases h
theorem DpAll.part {K : PySem.W.Frag} {G H : Hp} (p : Part G H) : ∀ (ds : List PyData) (vs : List V), DpAll K G vs ds → DpAll K H vs ds
  | [], _, h => by cases h; exact .nil
  | d :: ds, _, h => by
    cases h with
    | cons a b => exact .cons (Dp.part p d _ a) (DpAll.part p ds _ b)
end
theorem DpAll.append {K : PySem.W.Frag} {H : Hp} : ∀ {vs ws : List V} {ds es : List PyData}, DpAll K H vs ds → DpAll K H ws es → DpAll K H (vs ++ ws) (ds ++ es)
  | [], _, [], _, _, b => b
  | [], _, _ :: _, _, a, _ => by cases a
  | _ :: _, _, [], _, a, _ => by cases a
  | _ :: vs, _, _ :: ds, _, a, b => by
    cases a with
    | cons h t => exact .cons h (DpAll.append t b)
theorem DpAll.len {K : PySem.W.Frag} {H : Hp} : ∀ {vs : List V} {ds : List PyData}, DpAll K H vs ds → vs.length = ds.length
  | [], [], _ => rfl
  | [], _ :: _, a => by cases a
  | _ :: _, [], a => by cases a
  | _ :: vs, _ :: ds, a => by
    cases a with
    | cons h t => rw [List.length_cons, List.length_cons, DpAll.len t]
theorem DpAll.at {K : PySem.W.Frag} {H : Hp} : ∀ {vs : List V} {ds : List PyData} {i : Nat} {v : V}, DpAll K H vs ds → vs[i]? = some v → ∃ d, ds[i]? = some d ∧ Dp K H v d
  | [], [], i, v, _, e => by simp at e
  | [], _ :: _, _, _, a, _ => by cases a
  | _ :: _, [], _, _, a, _ => by cases a
  | x :: vs, d :: ds, 0, v, a, e => by
    cases a with
    | cons h t =>
      simp at e
      subst e
      exact ⟨d, rfl, h⟩
  | x :: vs, d :: ds, i + 1, v, a, e => by
    cases a with
    | cons h t => exact DpAll.at (i := i) t (by simpa using e)
theorem DpAll.ints {K : PySem.W.Frag} {H : Hp} : ∀ ns : List Int, DpAll K H (ns.map V.int) (ns.map PyData.int)
  | [] => .nil
  | n :: ns => .cons (.int n) (DpAll.ints ns)
/-- data that can be shown and compared: depth, length of the text -/
structure Gd (n s : Nat) (d : PyData) : Prop where
  sh : d.showable = true
  cl : d.canLay0 = true
  dp : d.depth ≤ n
  ln : d.shown.length ≤ s
  so : PyData.strOk d.shown = true
theorem Gd.mono {n m s t : Nat} {d : PyData} (g : Gd n s d) (a : n ≤ m) (b : s ≤ t) : Gd m t d := ⟨g.sh, g.cl, Nat.le_trans g.dp a, Nat.le_trans g.ln b, g.so⟩
theorem so_app {x y : Str} (a : PyData.strOk x = true) (b : PyData.strOk y = true) : PyData.strOk (x ++ y) = true := by
  unfold PyData.strOk at *
  rw [Array.all_eq_true_iff_forall_mem] at *
  intro c hc
  have : c ∈ x.cps ++ y.cps := hc
  rcases Array.mem_append.mp this with h | h
  · exact a c h
  · exact b c h
theorem so_from : ∀ (ts : List Str) (k : Nat) (acc : Str), (∀ t ∈ ts, PyData.strOk t = true) → PyData.strOk acc = true → PyData.strOk (textFrom k acc ts) = true
  | [], _, _, _, a => a
  | t :: ts, k, acc, h, a => so_from ts (k + 1) _ (fun x hx => h x (List.mem_cons_of_mem _ hx)) (so_app (so_app a (by split <;> decide +kernel)) (h t List.mem_cons_self))
theorem so_join : ∀ ts : List Str, (∀ t ∈ ts, PyData.strOk t = true) → PyData.strOk (Str.join ", " ts) = true
  | [], _ => by decide +kernel
  | [x], h => h x List.mem_cons_self
  | x :: y :: r, h => by
    have ih := so_join (y :: r) fun t ht => h t (List.mem_cons_of_mem _ ht)
    show PyData.strOk (x ++ ", " ++ Str.join ", " (y :: r)) = true
    exact so_app (so_app (h x List.mem_cons_self) (by decide +kernel)) ih
theorem Gd.shownAll {n s : Nat} : ∀ {ds : List PyData}, (∀ d ∈ ds, Gd n s d) → PyData.showableAll ds = true ∧ PyData.canLayAll0 ds = true ∧ PyData.depthAll ds ≤ n ∧ ((PyData.shownAll ds).map (·.length)).sum ≤ ds.length * s ∧ (∀ t ∈ PyData.shownAll ds, PyData.strOk t = true) ∧ (PyData.shownAll ds).length = ds.length
  | [], _ => ⟨rfl, rfl, Nat.zero_le _, by simp [PyData.shownAll], by simp [PyData.shownAll], by simp [PyData.shownAll]⟩
  | d :: ds, h => by
    obtain ⟨h1, h2, h3, h4, h5, h6⟩ := Gd.shownAll (ds := ds) fun x hx => h x (List.mem_cons_of_mem _ hx)
    have g := h d List.mem_cons_self
    have ln := g.ln
    have dp := g.dp
    refine ⟨?_, ?_, ?_, ?_, ?_, ?_⟩
    · rw [PyData.showableAll, g.sh, h1]; rfl
    · rw [PyData.canLayAll0, g.cl, h2]; rfl
    · rw [PyData.depthAll]; omega
    · rw [PyData.shownAll, List.map_cons, List.sum_cons, List.length_cons, Nat.succ_mul]; omega
    · intro t ht
      rw [PyData.shownAll] at ht
      rcases List.mem_cons.mp ht with e | e
      · rw [e]; exact g.so
      · exact h5 t e
    · rw [PyData.shownAll, List.length_cons, List.length_cons, h6]
theorem Gd.list {n s : Nat} {ds : List PyData} (h : ∀ d ∈ ds, Gd n s d) : Gd (n + 1) (ds.length * s + 2 * ds.length + 3) (.list ds) := by
  obtain ⟨h1, h2, h3, h4, h5, h6⟩ := Gd.shownAll h
  refine ⟨by rw [PyData.showable]; exact h1, by rw [PyData.canLay0]; exact h2, by rw [PyData.depth]; omega, ?_, ?_⟩
  · rw [PyData.shown]
    have := listText_len_le (PyData.shownAll ds)
    omega
  · rw [PyData.shown]
    exact so_app (so_from _ _ _ h5 (by decide +kernel)) (by decide +kernel)
theorem Gd.tuple {n s : Nat} {ds : List PyData} (h : ∀ d ∈ ds, Gd n s d) : Gd (n + 1) (ds.length * s + 2 * ds.length + 3) (.tuple ds) := by
  obtain ⟨h1, h2, h3, h4, h5, h6⟩ := Gd.shownAll h
  refine ⟨by rw [PyData.showable]; exact h1, by rw [PyData.canLay0]; exact h2, by rw [PyData.depth]; omega, ?_, ?_⟩
  · rw [PyData.shown]
    have := tupleText_len_le (PyData.shownAll ds)
    omega
  · rw [PyData.shown]
    exact so_app (so_app (by decide +kernel) (so_join _ h5)) (by split <;> decide +kernel)
theorem Gd.shaped {n s : Nat} {d : PyData} (g : Gd n s d) (h : n ≤ 64) : SeqAt.shaped d = true := Bool.and_eq_true_iff.mpr ⟨g.cl, decide_eq_true (Nat.le_trans g.dp h)⟩
theorem Gd.noDict {n s : Nat} {d : PyData} (g : Gd n s d) : d.hasDict = false := PyData.hasDict_of_canLay d g.cl
/-- a leaf, by running -/
def leafOk (d : PyData) : Bool := d.showable && d.canLay0 && decide (d.depth ≤ 0) && decide (d.shown.length ≤ 45) && PyData.strOk d.shown
theorem Gd.leaf {d : PyData} {n s : Nat} (h : leafOk d = true) (hs : 45 ≤ s) : Gd n s d := by
  unfold leafOk at h
  simp only [Bool.and_eq_true, decide_eq_true_eq] at h
  obtain ⟨⟨⟨⟨h1, h2⟩, h3⟩, h4⟩, h5⟩ := h
  exact ⟨h1, h2, Nat.le_trans h3 (Nat.zero_le _), Nat.le_trans h4 hs, h5⟩
/-- how long a text may be, one more level of at most three -/
def wide : Nat → Nat → Nat
  | 0, s => s
  | n + 1, s => 3 * wide n s + 9
theorem wide_le (s : Nat) : ∀ n, s ≤ wide n s
  | 0 => Nat.le_refl _
  | n + 1 => by have := wide_le s n; show s ≤ 3 * wide n s + 9; omega
/-! the type of data -/
def tyn : PyData → String
  | .none => "NoneType"
  | .bool _ => "bool"
  | .int _ => "int"
  | .str _ => "str"
  | .list _ => "list"
  | .tuple _ => "tuple"
  | .dict _ => "dict"
theorem ty_d {K : PySem.W.Frag} {H : Hp} {x : V} {d : PyData} (h : Dp K H x d) : TyX K H x (.type (tyn d)) := by
  cases h with
  | non => exact .base .non
  | bl b => exact .base (.bl b)
  | int i => exact .base (.int i)
  | str s => exact .base (.str s)
  | lst a _ =>
    rcases a with (a | ⟨o, a⟩) | ⟨o, its, n, a, c, _⟩
    · exact .base (.lst a)
    · exact .base (.frz a)
    · exact .kList a c
  | tup a _ =>
    rcases a with (a | ⟨o, a⟩) | ⟨o, its, n, a, c, _⟩
    · exact .base (.tup a)
    · exact .fTuple a
    · exact .kTuple a c
def isNum : PyData → Bool
  | .int _ => true
  | _ => false
instance (n : Int) : Decidable (Fits n) := inferInstanceAs (Decidable (_ ∧ _))
def isVal : PyData → Bool
  | .int n => decide (Fits n)
  | _ => false
def spIsNum (K : PySem.W.Frag) : Sp := fun vs H Q _ => ∃ (x : V) (d : PyData), vs = [x] ∧ Dp K H x d ∧ Q (.bl (isNum d)) H
def spIsVal (K : PySem.W.Frag) : Sp := fun vs H Q _ => ∃ (x : V) (d : PyData), vs = [x] ∧ Dp K H x d ∧ Q (.bl (isVal d)) H
/-! isinstance(x, T), both answers -/
def isInt : PyData → Bool
  | .bool _ => true
  | .int _ => true
  | _ => false
theorem kit_isInt {K : PySem.W.Frag} {d : PyData} (h : ∀ kvs, d ≠ .dict kvs) : PySem.W.kitOne K (.type (tyn d)) (.type "int") = some (isInt d) := by
  cases d with
  | dict kvs => exact absurd rfl (h kvs)
  | none => exact kit_ty (a := "NoneType") (r := false) (by decide +kernel)
  | bool b => exact kit_ty (a := "bool") (r := true) (by decide +kernel)
  | int i => exact kit_ty (a := "int") (r := true) (by decide +kernel)
  | str z => exact kit_ty (a := "str") (r := false) (by decide +kernel)
  | list xs => exact kit_ty (a := "list") (r := false) (by decide +kernel)
  | tuple xs => exact kit_ty (a := "tuple") (r := false) (by decide +kernel)
def isBool : PyData → Bool
  | .bool _ => true
  | _ => false
theorem kit_isBool {K : PySem.W.Frag} {d : PyData} (h : ∀ kvs, d ≠ .dict kvs) : PySem.W.kitOne K (.type (tyn d)) (.type "bool") = some (isBool d) := by
  cases d with
  | dict kvs => exact absurd rfl (h kvs)
  | none => exact kit_ty (a := "NoneType") (r := false) (by decide +kernel)
  | bool b => exact kit_ty (a := "bool") (r := true) (by decide +kernel)
  | int i => exact kit_ty (a := "int") (r := false) (by decide +kernel)
  | str z => exact kit_ty (a := "str") (r := false) (by decide +kernel)
  | list xs => exact kit_ty (a := "list") (r := false) (by decide +kernel)
  | tuple xs => exact kit_ty (a := "tuple") (r := false) (by decide +kernel)
def isStr : PyData → Bool
  | .str _ => true
  | _ => false
theorem kit_isStr {K : PySem.W.Frag} {d : PyData} (h : ∀ kvs, d ≠ .dict kvs) : PySem.W.kitOne K (.type (tyn d)) (.type "str") = some (isStr d) := by
  cases d with
  | dict kvs => exact absurd rfl (h kvs)
  | none => exact kit_ty (a := "NoneType") (r := false) (by decide +kernel)
  | bool b => exact kit_ty (a := "bool") (r := false) (by decide +kernel)
  | int i => exact kit_ty (a := "int") (r := false) (by decide +kernel)
  | str z => exact kit_ty (a := "str") (r := true) (by decide +kernel)
  | list xs => exact kit_ty (a := "list") (r := false) (by decide +kernel)
  | tuple xs => exact kit_ty (a := "tuple") (r := false) (by decide +kernel)
def isTup : PyData → Bool
  | .tuple _ => true
  | _ => false
theorem kit_isTup {K : PySem.W.Frag} {d : PyData} (h : ∀ kvs, d ≠ .dict kvs) : PySem.W.kitOne K (.type (tyn d)) (.type "tuple") = some (isTup d) := by
  cases d with
  | dict kvs => exact absurd rfl (h kvs)
  | none => exact kit_ty (a := "NoneType") (r := false) (by decide +kernel)
  | bool b => exact kit_ty (a := "bool") (r := false) (by decide +kernel)
  | int i => exact kit_ty (a := "int") (r := false) (by decide +kernel)
  | str z => exact kit_ty (a := "str") (r := false) (by decide +kernel)
  | list xs => exact kit_ty (a := "list") (r := false) (by decide +kernel)
  | tuple xs => exact kit_ty (a := "tuple") (r := true) (by decide +kernel)
def isLst : PyData → Bool
  | .list _ => true
  | _ => false
theorem kit_isLst {K : PySem.W.Frag} {d : PyData} (h : ∀ kvs, d ≠ .dict kvs) : PySem.W.kitOne K (.type (tyn d)) (.type "list") = some (isLst d) := by
  cases d with
  | dict kvs => exact absurd rfl (h kvs)
  | none => exact kit_ty (a := "NoneType") (r := false) (by decide +kernel)
  | bool b => exact kit_ty (a := "bool") (r := false) (by decide +kernel)
  | int i => exact kit_ty (a := "int") (r := false) (by decide +kernel)
  | str z => exact kit_ty (a := "str") (r := false) (by decide +kernel)
  | list xs => exact kit_ty (a := "list") (r := true) (by decide +kernel)
  | tuple xs => exact kit_ty (a := "tuple") (r := false) (by decide +kernel)
theorem Dp.nd {K : PySem.W.Frag} {H : Hp} {x : V} {d : PyData} (h : Dp K H x d) : ∀ kvs, d ≠ .dict kvs := fun kvs e => by
  subst e
  cases h
/-- one of some things -/
def spOf (K : PySem.W.Frag) : Sp := fun vs H Q _ => ∃ (a l : Addr) (xs : List V), vs = [.ref a, .ref l] ∧ SrcAt H a ∧ SqL K H l xs ∧ a ≠ l ∧ 0 < xs.length ∧ xs.length ≤ 1000 ∧ ∀ (i : Nat) (v : V) (c st n : Int), xs[i]? = some v → Q v (upd H a (src c st n))
/-- any value -/
def spAny (K : PySem.W.Frag) (dep : Nat) : Sp := fun vs H Q _ => ∃ (a l : Addr) (xs : List V) (ds : List PyData) (G : Hp) (n s : Nat), vs = [.ref a, .ref l, .int dep] ∧ SrcAt H a ∧ SqL K H l xs ∧ a ≠ l ∧ Part G H ∧ G a = none ∧ DpAll K G xs ds ∧ (∀ d ∈ ds, Gd n s d) ∧ 45 ≤ s ∧ 0 < xs.length ∧ xs.length ≤ 1000 ∧
  ∀ (v : V) (d : PyData) (G' H' : Hp), But (· = a) H H' → SrcAt H' a → Part G G' → Part G' H' → (∀ b, H b ≠ none → G b = none → G' b = none) → Dp K G' v d → Gd (n + dep) (wide dep s) d → Q v H'
theorem SqL.but {K : PySem.W.Frag} {S : Addr → Prop} {H H' : Hp} {a : Addr} {xs : List V} (h : SqL K H a xs) (b : But S H H') (n : ¬ S a) : SqL K H' a xs := by
  rcases h with (h | ⟨o, h⟩) | h
  · exact .inl (.inl (b _ _ h n))
  · exact .inl (.inr ⟨o, b _ _ h n⟩)
  · exact .inr h
end L2.G42

set_option Elab.async false
set_option linter.all false
set_option maxRecDepth 100000
set_option maxHeartbeats 4000000
namespace L2.G42
open PySem PySem.Spec
/-! lists of ints, lists of such, compared -/
def dI (xs : List Int) : PyData := .list (xs.map PyData.int)
def dL (xss : List (List Int)) : PyData := .list (xss.map dI)
theorem dpI {K : PySem.W.Frag} {H : Hp} : ∀ xs : List Int, DpAll K H (xs.map V.int) (xs.map PyData.int)
  | [] => .nil
  | x :: xs => .cons (.int x) (dpI xs)
theorem canI : ∀ xs : List Int, PyData.canLayAll0 (xs.map PyData.int) = true
  | [] => by simp [PyData.canLayAll0]
  | x :: xs => by
    rw [List.map_cons, PyData.canLayAll0, canI xs]
    simp [PyData.canLay0]
theorem depI : ∀ xs : List Int, PyData.depthAll (xs.map PyData.int) = 0
  | [] => by simp [PyData.depthAll]
  | x :: xs => by
    rw [List.map_cons, PyData.depthAll, depI xs]
    simp [PyData.depth]
theorem canDI (xs : List Int) : PyData.canLay0 (dI xs) = true := by
  unfold dI
  rw [PyData.canLay0]
  exact canI xs
theorem depDI (xs : List Int) : PyData.depth (dI xs) = 1 := by
  unfold dI
  rw [PyData.depth, depI xs]
theorem canL : ∀ xss : List (List Int), PyData.canLayAll0 (xss.map dI) = true
  | [] => by simp [PyData.canLayAll0]
  | x :: xs => by
    rw [List.map_cons, PyData.canLayAll0, canL xs, canDI]
    rfl
theorem depL : ∀ xss : List (List Int), PyData.depthAll (xss.map dI) ≤ 1
  | [] => by simp [PyData.depthAll]
  | x :: xs => by
    rw [List.map_cons, PyData.depthAll, depDI]
    have := depL xs
    omega
theorem shI (xs : List Int) : SeqAt.shaped (dI xs) = true := by
  unfold SeqAt.shaped
  rw [canDI, depDI]
  rfl
theorem shL (xss : List (List Int)) : SeqAt.shaped (dL xss) = true := by
  have h1 : PyData.canLay0 (dL xss) = true := by
    unfold dL
    rw [PyData.canLay0]
    exact canL xss
  have h2 : PyData.depth (dL xss) ≤ 64 := by
    unfold dL
    rw [PyData.depth]
    have := depL xss
    omega
  unfold SeqAt.shaped
  rw [h1, decide_eq_true h2]
  rfl
/-- two lists of the same ints -/
theorem ne_ints {K : PySem.W.Frag} {H : Hp} {Q : VK} {a b : Addr} {xs : List Int} (ha : SqL K H a (xs.map V.int)) (hb : SqL K H b (xs.map V.int)) (k : Q (.bl false) H) : rNeD K (.ref a) (.ref b) H Q := by
  refine ⟨dI xs, dI xs, .lst ha (dpI xs), .lst hb (dpI xs), shI xs, shI xs, ?_⟩
  rw [SeqAt.eqv_refl _ (canDI xs)]
  exact k
theorem eq_ints {K : PySem.W.Frag} {H : Hp} {Q : VK} {a b : Addr} {xs : List Int} (ha : SqL K H a (xs.map V.int)) (hb : SqL K H b (xs.map V.int)) (k : Q (.bl true) H) : rEqD K (.ref a) (.ref b) H Q := by
  refine ⟨dI xs, dI xs, .lst ha (dpI xs), .lst hb (dpI xs), shI xs, shI xs, ?_⟩
  rw [SeqAt.eqv_refl _ (canDI xs)]
  exact k
/-- the same data are not unequal -/
theorem ne_same {K : PySem.W.Frag} {H : Hp} {Q : VK} {x y : V} {d : PyData} (hx : Dp K H x d) (hy : Dp K H y d) (sh : SeqAt.shaped d = true) (k : Q (.bl false) H) : rNeD K x y H Q := by
  refine ⟨d, d, hx, hy, sh, sh, ?_⟩
  rw [SeqAt.eqv_refl _ (SeqAt.canLay_of_shaped sh)]
  exact k
/-- an own special method, as an operator sees it -/
structure Own1 (P : Program) (w : World) (K : PySem.W.Frag) (mg : Str → Option Value) (base : Heap) (k : Nat) (C : Addr) (m : Str) (sp : Sp) : Prop where
  ex : ∃ (f : Addr) (fd : FuncData) (ps : List Str), FnOk P w K mg base CX0 k f fd ps sp ∧ PySem.W.findIn K (.ref C) m = some (some (.ref f)) ∧ PySem.W.isFn K (.ref f) = true ∧ Binds K fd ps []
theorem cr_lenO {X : Cx} {k j : Nat} {C : Addr} {sp : Sp} (c : Own1 X.prog X.w X.K X.mg X.base k C "__len__" sp) (hr : Room j X.A) (hk : k + 1 ≤ j) : CallR X (.builtin "len") (rLenI C sp E0) :=
  let ⟨_, _, _, F, h1, h2, h3⟩ := c.ex
  call_lenI F h1 h2 h3 (hr.mono hk) pass0
theorem op_inO {X : Cx} {k j : Nat} {C : Addr} {sp : Sp} (c : Own1 X.prog X.w X.K X.mg X.base k C "__contains__" sp) (hr : Room j X.A) (hk : k ≤ j) : OpR X (compareOp .In) (rInI C sp E0 false) :=
  let ⟨_, _, _, F, h1, h2, h3⟩ := c.ex
  op_inI F h1 h2 h3 (hr.mono hk) pass0
/-- a rising list within another one is no longer -/
theorem nd_len : ∀ {l m : List Int}, l.Nodup → (∀ x ∈ l, x ∈ m) → l.length ≤ m.length
  | [], _, _, _ => Nat.zero_le _
  | x :: l, m, nd, h => by
    obtain ⟨n1, n2⟩ := List.nodup_cons.mp nd
    have hx : x ∈ m := h x List.mem_cons_self
    have := nd_len (l := l) (m := m.erase x) n2 fun y hy => (List.mem_erase_of_ne (fun e : y = x => n1 (e ▸ hy))).mpr (h y (List.mem_cons_of_mem _ hy))
    rw [List.length_erase_of_mem hx] at this
    have : 0 < m.length := List.length_pos_of_mem hx
    rw [List.length_cons]
    omega
theorem up_nd {l : List Int} (h : l.Pairwise (· < ·)) : l.Nodup := h.imp fun a => Int.ne_of_lt a
theorem ex_rise (ks : List Int) : ∃ xs : List Int, xs.Pairwise (· < ·) ∧ ∀ x, x ∈ ks ↔ x ∈ xs := by
  induction ks with
  | nil => exact ⟨[], .nil, by simp⟩
  | cons k ks ih =>
    obtain ⟨xs, h1, h2⟩ := ih
    by_cases hk : k ∈ xs
    · refine ⟨xs, h1, fun x => ?_⟩
      rw [List.mem_cons, h2 x]
      exact ⟨fun h => h.elim (fun e => e ▸ hk) id, .inr⟩
    · refine ⟨xs.filter (fun x => decide (x < k)) ++ k :: xs.filter (fun x => decide (k < x)), ?_, fun x => ?_⟩
      · refine List.pairwise_append.mpr ⟨h1.filter _, List.pairwise_cons.mpr ⟨fun y hy => ?_, h1.filter _⟩, fun y hy z hz => ?_⟩
        · simpa using (List.mem_filter.mp hy).2
        · have a : y < k := by simpa using (List.mem_filter.mp hy).2
          rcases List.mem_cons.mp hz with e | e
          · omega
          · have b : k < z := by simpa using (List.mem_filter.mp e).2
            omega
      · rw [List.mem_cons, List.mem_append, List.mem_cons, List.mem_filter, List.mem_filter, h2 x]
        simp only [decide_eq_true_eq]
        constructor
        · rintro (e | e)
          · exact .inr (.inl e)
          · rcases Int.lt_trichotomy x k with l | l | l
            · exact .inl ⟨e, l⟩
            · exact .inr (.inl l)
            · exact .inr (.inr ⟨e, l⟩)
        · rintro (⟨e, _⟩ | e | ⟨e, _⟩)
          · exact .inr e
          · exact .inl e
          · exact .inr e
/-! bags -/
/-- a bag at p: its dict at d holds ks -/
structure BagAt (C : Addr) (H : Hp) (p d : Addr) (sh : Bool) (ks : List Int) : Prop where
  ob : ∃ dx, H p = some (.ins C dx (bfs (.ref d) (.bl sh)))
  dc : H d = some (.dK (kv ks))
/-- the class -/
structure BagC (K : PySem.W.Frag) (C : Addr) : Prop where
  cl : Cls K C
  nI : NoAttr K C "inside"
  nS : NoAttr K C "shared"
theorem BagAt.same {C : Addr} {S : Addr → Prop} {H H' : Hp} {p d : Addr} {sh : Bool} {ks : List Int} (b : BagAt C H p d sh ks) (e : But S H H') (hp : ¬ S p) (hd : ¬ S d) : BagAt C H' p d sh ks := by
  obtain ⟨⟨dx, ob⟩, dc⟩ := b
  exact ⟨⟨dx, e _ _ ob hp⟩, e _ _ dc hd⟩
theorem BagAt.grow {C : Addr} {H H' : Hp} {p d : Addr} {sh : Bool} {ks : List Int} (b : BagAt C H p d sh ks) (e : But (fun _ => False) H H') : BagAt C H' p d sh ks := b.same e id id
/-- what a bag has, asked with any value -/
def hasV (ks : List Int) : PyData → Bool
  | .int n => decide (Fits n) && decide (n ∈ ks)
  | _ => false
theorem ints_of {K : PySem.W.Frag} {H : Hp} : ∀ {xs : List V} {ds : List PyData}, DpAll K H xs ds → (∀ d ∈ ds, isVal d = true) → ∃ ns : List Int, xs = ns.map V.int ∧ ds = ns.map PyData.int ∧ ∀ n ∈ ns, Fits n
  | [], [], _, _ => ⟨[], rfl, rfl, by simp⟩
  | [], _ :: _, h, _ => by cases h
  | _ :: _, [], h, _ => by cases h
  | x :: xs, d :: ds, h, hv => by
    cases h with
    | cons h1 h2 =>
      obtain ⟨ns, e1, e2, e3⟩ := ints_of h2 fun e he => hv e (List.mem_cons_of_mem _ he)
      have v := hv d List.mem_cons_self
      cases h1 with
      | int n =>
        refine ⟨n :: ns, by rw [e1]; rfl, by rw [e2]; rfl, fun m hm => ?_⟩
        rcases List.mem_cons.mp hm with e | e
        · rw [e]; exact of_decide_eq_true v
        · exact e3 m e
      | _ => cases v
def spInit (K : PySem.W.Frag) (C B : Addr) : Sp := fun vs H Q E => ∃ (p dx a : Addr) (xs : List V) (ds : List PyData) (sh : Bool), vs = [.ref p, .ref a, .bl sh] ∧ H p = some (.ins C dx []) ∧ (SqL K H a xs ∨ SqT K H a xs) ∧ DpAll K H xs ds ∧ xs.length ≤ 1000 ∧
  (∀ (i : Nat) (x : V) (d : PyData), xs[i]? = some x → ds[i]? = some d → isVal d = false → (∀ (j : Nat) (e : PyData), j < i → ds[j]? = some e → isVal e = true) → ∀ e, H e = none → E (.ref B) (some e) (upd H e (.xd [("value", x)]))) ∧
  ∀ ns : List Int, xs = ns.map V.int → (∀ n ∈ ns, Fits n) → ds = ns.map PyData.int → ∀ (d : Addr) (H' : Hp), H d = none → BagAt C H' p d sh (insAll [] ns) → But (· = p) H H' → Q .non H'
def spAdd (K : PySem.W.Frag) (C B : Addr) : Sp := fun vs H Q E => ∃ (p d : Addr) (sh : Bool) (ks : List Int) (x : V) (e : PyData), vs = [.ref p, x] ∧ BagAt C H p d sh ks ∧ Dp K H x e ∧ ks.length ≤ 10000 ∧
  (isVal e = false → ∀ q, H q = none → E (.ref B) (some q) (upd H q (.xd [("value", x)]))) ∧ ∀ n : Int, x = .int n → Fits n → Q .non (upd H d (.dK (kv (ins ks n))))
def spHas (K : PySem.W.Frag) (C : Addr) : Sp := fun vs H Q _ => ∃ (p d : Addr) (sh : Bool) (ks : List Int) (x : V) (e : PyData), vs = [.ref p, x] ∧ BagAt C H p d sh ks ∧ Dp K H x e ∧ Q (.bl (hasV ks e)) H
def spLen (C : Addr) : Sp := fun vs H Q _ => ∃ (p d : Addr) (sh : Bool) (ks : List Int), vs = [.ref p] ∧ BagAt C H p d sh ks ∧ Q (.int ks.length) H
def spTold (C : Addr) : Sp := fun vs H Q _ => ∃ (p d : Addr) (sh : Bool) (ks xs : List Int), vs = [.ref p] ∧ BagAt C H p d sh ks ∧ ks.Nodup ∧ xs.Pairwise (· < ·) ∧ (∀ x, x ∈ ks ↔ x ∈ xs) ∧
  ∀ (q : Addr) (H' : Hp), H q = none → H' q = some (.lst (xs.map V.int)) → But (fun _ => False) H H' → Q (.ref q) H'
def spClear (C : Addr) : Sp := fun vs H Q _ => ∃ (p d : Addr) (sh : Bool) (ks : List Int), vs = [.ref p] ∧ BagAt C H p d sh ks ∧ ∀ (d' : Addr) (H' : Hp), H d' = none → BagAt C H' p d' sh [] → But (· = p) H H' → Q .non H'
def spForm : Sp := fun vs H Q _ => ∃ p : Addr, vs = [.ref p] ∧ Q (.str "*") H
/-- a new bag's promise: at x, its dict at d, holding ks -/
def RetB (C : Addr) (sh : Bool) (ks : List Int) (H : Hp) (Q : VK) : Prop := ∀ (x d : Addr) (H' : Hp), H x = none → H d = none → BagAt C H' x d sh ks → But (fun _ => False) H H' → Q (.ref x) H'
theorem RetB.back {C : Addr} {sh : Bool} {ks : List Int} {H H1 : Hp} {Q : VK} (g : But (fun _ => False) H H1) (k : RetB C sh ks H Q) : RetB C sh ks H1 Q := fun x d H' hx hd B bt => k x d H' (g.free hx) (g.free hd) B (g.trans bt)
theorem make_bag {K : PySem.W.Frag} {C B : Addr} {H : Hp} {Q : VK} {E : XK} {l : Addr} {ns : List Int} {sh : Bool} (hl : SqL K H l (ns.map V.int) ∨ SqT K H l (ns.map V.int)) (fit : ∀ n ∈ ns, Fits n) (few : ns.length ≤ 1000) (k : RetB C sh (insAll [] ns) H Q) (x dx : Addr) (hx : H x = none) (hdx : H dx = none) (ne : dx ≠ x) :
    spInit K C B (.ref x :: ([.ref l] ++ [.bl sh])) (upd (upd H dx (.own x)) x (.ins C dx [])) (fun v H2 => v = .non ∧ Q (.ref x) H2) E := by
  have g : But (fun _ => False) H (upd (upd H dx (.own x)) x (.ins C dx [])) := But.fresh (But.new hdx) hx
  have pt : Part H (upd (upd H dx (.own x)) x (.ins C dx [])) := fun b o e => g b o e id
  refine ⟨x, dx, l, ns.map V.int, ns.map PyData.int, sh, rfl, upd_same, hl.elim (fun h => .inl (SqL.part h pt)) (fun h => .inr (SqT.part h pt)), DpAll.ints ns, by rw [List.length_map]; exact few, fun i y d hy hd hv => ?_, fun ms e1 hf e2 d H' hd BA bt => ⟨rfl, ?_⟩⟩
  · rw [List.getElem?_map] at hd
    obtain ⟨n, hn, rfl⟩ := Option.map_eq_some_iff.mp hd
    rw [show isVal (.int n) = true from decide_eq_true (fit n (List.mem_of_getElem? hn))] at hv
    cases hv
  · obtain rfl := map_int_inj e1
    exact k x d H' hx (g.free hd) BA fun b o hb _ => bt b o (g b o hb id) (ne_of_none hb hx)
end L2.G42

set_option Elab.async false
set_option linter.all false
set_option maxRecDepth 100000
set_option maxHeartbeats 4000000
namespace K09
open PySem L2 L2.G42
open Evl (pss_cut)
open PyProof.Rows (boot_isinstance boot_int boot_bool boot_list boot_set boot_abs boot_enumerate)
def top (i : Nat) : Stmt := PySem.Challenge.pw_nestedwrites_k09_values_in_bags.main.body.getD i (.Pass ⟨0, 0, 0, 0⟩)
abbrev sSource : Stmt := top 11
abbrev sTake : Stmt := top 12
abbrev sValue : Stmt := top 14
abbrev sValues : Stmt := top 15
section
variable {P : Program} {w : World} {K : PySem.W.Frag} {mg : Str → Option Value} {base : Heap}
theorem scTake : FnScope ["_law_source_here", "_law_many", "_law_digit"] ["_law_source_here", "_law_many"] (defScope sTake) := ⟨rfl, rfl, rfl, by decide +kernel, rfl, by decide +kernel, by decide +kernel⟩
theorem ok_take {f : Addr} {fd : FuncData} (F : Fun K "_law_take" "_law_take" sTake f fd) (T : Bn mg) : FnOk P w K mg base CX0 1 f fd ["_law_source_here", "_law_many"] spTake := by
  refine F.ok scTake (fun vs H Q E h => ?_) (fun cdv A outer s H vs Q E hr h => ?_)
  · obtain ⟨a, many, rfl, _⟩ := h
    rfl
  · obtain ⟨a, many, rfl, h0, h9, ⟨c, st, n, hs⟩, k⟩ := h
    refine ⟨_, (pss_cons (ps_if (pt_cmpR op_gt (pe_ix ix_list (pv 0) pe_int (fun _ _ => rfl)) pe_int (nomark _))
      (pss_cons (ps_set (i := 2) scTake.nd rfl (.inl rfl) (pe_op op_mod (pe_callTy call_int1 (by rfl) T.int boot_int (pa_cons (pe_ix ix_list (pv 0) pe_int (fun _ _ => rfl)) pa_nil)) (pv 1)))
        (pss_cons (ps_asg (pe_op op_fdivW (pe_ix ix_list (pv 0) pe_int (fun _ _ => rfl)) (pv 1)) (pg_sub (pv 0) pe_int set_list))
        (pss_one (ps_ret (pv 2)))))
      pss_nil)
      (pss_cons (ps_asg (pe_op op_add (pe_ix ix_list (pv 0) pe_int (fun _ _ => rfl)) pe_int) (pg_sub (pv 0) pe_int set_list))
      (pss_cons (ps_asg (pe_op op_mod (pe_callTy call_int1 (by rfl) T.int boot_int (pa_cons (pe_op op_add (pe_op op_mul (pe_ix ix_list (pv 0) pe_int (fun _ _ => rfl)) pe_int) (pe_op op_mul pe_int (pe_ix ix_list (pv 0) pe_int (fun _ _ => rfl)))) pa_nil)) pe_int) (pg_sub (pv 0) pe_int set_list))
      (pss_one (ps_ret (pe_op op_mod (pe_callTy call_int1 (by rfl) T.int boot_int (pa_cons (pe_op op_fdivW (pe_ix ix_list (pv 0) pe_int (fun _ _ => rfl)) pe_int) pa_nil)) (pv 1))))))), ?_⟩
    refine ⟨_, rfl, a, _, _, _, rfl, rfl, src0 hs, rfl, _, _, rfl, rfl, _, rfl, ?_⟩
    refine ite2 (fun h => ?_) (fun h => ?_)
    · refine ⟨_, rfl, a, _, _, _, rfl, rfl, src0 hs, rfl, .inl ⟨_, rfl, _, rfl, _, _, rfl, rfl, h0, ?_⟩⟩
      refine ⟨_, rfl, a, _, _, _, rfl, rfl, src0 hs, rfl, _, rfl, _, _, rfl, rfl, ⟨h0, h9⟩, _, rfl, a, _, _, 0, rfl, rfl, hs, rfl, _, rfl, ?_⟩
      exact k _ _ _ _ (Int.emod_nonneg _ (by omega)) (Int.emod_lt_of_pos _ h0)
    · refine ⟨_, rfl, a, _, _, _, rfl, rfl, src0 hs, rfl, _, _, rfl, rfl, _, rfl, a, _, _, 2, rfl, rfl, hs, rfl, ?_⟩
      have h1 : (upd H a (src c st (n + 1))) a = some (src c st (n + 1)) := upd_same
      refine ⟨_, rfl, a, _, _, _, rfl, rfl, src0 h1, rfl, _, _, rfl, rfl, .inr ⟨by decide, by decide⟩, _, rfl, a, _, _, _, rfl, rfl, src0 h1, rfl, _, _, rfl, rfl, .inl ⟨by decide, by decide⟩, _, _, rfl, rfl, .inl ⟨_, rfl, _, _, rfl, rfl, (by decide : (0 : Int) < 2147483647), _, rfl, a, _, _, 1, rfl, rfl, h1, rfl, ?_⟩⟩
      rw [upd_twice]
      refine ⟨_, rfl, a, _, _, _, rfl, rfl, src0 upd_same, rfl, _, _, rfl, rfl, ⟨by decide, by decide⟩, .inl ⟨_, rfl, _, rfl, _, _, rfl, rfl, h0, ?_⟩⟩
      exact k _ _ _ _ (Int.emod_nonneg _ (by omega)) (Int.emod_lt_of_pos _ h0)
theorem scSource : FnScope ["_law_script", "_law_at", "_law_cell", "_law_state", "_law_k", "_law_each"] ["_law_script", "_law_at"] (defScope sSource) := ⟨rfl, rfl, rfl, by decide +kernel, rfl, by decide +kernel, by decide +kernel⟩
theorem ok_source {f : Addr} {fd : FuncData} (F : Fun K "_law_source" "_law_source" sSource f fd) (T : Bn mg) : FnOk P w K mg base CX0 1 f fd ["_law_script", "_law_at"] (spSource K) := by
  refine F.ok scSource (fun vs H Q E h => ?_) (fun cdv A outer s H vs Q E hr h => ?_)
  · obtain ⟨a, ns, i, rfl, _⟩ := h
    rfl
  · obtain ⟨a, ns, z, rfl, hz, ha, k⟩ := h
    obtain ⟨i, rfl⟩ := Int.eq_ofNat_of_zero_le hz
    refine ⟨_, (pss_cut (ps_set (i := 2) scSource.nd rfl (.inl rfl) (pe_ifExp (pt_cmpR op_lt (pv 1) (pe_callB call_len_seq (by rfl) T.len PySem.boot_len (pa_cons (pv 0) pa_nil)) (nomark _)) (pe_callB call_abs (by rfl) T.abs boot_abs (pa_cons (pe_ix ix_list (pv 0) (pv 1) (fun _ _ => rfl)) pa_nil)) pe_int))
      (pss_cons (ps_set (i := 3) scSource.nd rfl (.inl rfl) (pe_op op_add pe_int (pe_op op_mul pe_int (pv 1))))
      (pss_cons (ps_for PassesOwn.never rfl (pi_enum (by rfl) T.enumerate (pa_cons (pe_slice sl_list (pv 0) po_none (po_some pe_int)) pa_nil)) (pg_tup rfl (pgs_cons (pg_name (i := 4) scSource.nd rfl (.inl rfl)) (pgs_cons (pg_name (i := 5) scSource.nd rfl (.inl rfl)) pgs_nil)))
      (pss_one (ps_set (i := 3) scSource.nd rfl (.inl rfl) (pe_op op_mod (pe_callTy call_int1 (by rfl) T.int boot_int (pa_cons (pe_op op_add (pe_op op_add (pe_op op_mul (pv 3) pe_int) (pe_op op_mod (pe_callTy call_int1 (by rfl) T.int boot_int (pa_cons (pv 5) pa_nil)) pe_int)) (pe_op op_mul pe_int (pv 4))) pa_nil)) pe_int))))
      (pss_one (ps_ret (pe_lst (pa_cons (pe_ifExp (pt_cmpR op_ge (pv 2) (pe_op op_pow pe_int pe_int) (nomark _)) (pv 2) pe_int) (pa_cons (pv 3) (pa_cons pe_int pa_nil))))))))), ?_⟩
    refine ⟨fun σ H1 => H1 = H ∧ ∃ cell : Int, σ = [some (.ref a), some (.int i), some (.int cell), none, none, none], ?_, ?_⟩
    · refine ⟨_, rfl, _, rfl, a, _, rfl, .inl ha, _, _, rfl, rfl, _, rfl, ite2 (fun h => ?_) (fun h => ?_)⟩
      · have h' : (i : Int) < ((ns.map V.int).length : Int) := by simpa using h
        have hi : i < ns.length := by
          rw [List.length_map] at h'
          omega
        have hg : (ns.map V.int)[i]? = some (V.int ns[i]) := by rw [List.getElem?_map, List.getElem?_eq_getElem hi]; rfl
        exact ⟨_, rfl, _, rfl, a, _, _, _, rfl, rfl, ha, atI_nat hg, _, rfl, rfl, _, rfl⟩
      · exact ⟨rfl, 0, rfl⟩
    · rintro σ H1 ⟨rfl, cell, rfl⟩
      refine ⟨_, rfl, _, _, rfl, rfl, .inl ⟨by decide, by decide⟩, _, _, rfl, rfl, ?_⟩
      refine ⟨_, rfl, _, rfl, a, _, rfl, ha, fun q hq => ?_⟩
      refine ⟨q, _, rfl, SqL.of upd_same, for_it (walk_enum (xs := cutV (ns.map V.int) none (some 63))) (fun _ σ H2 => (∃ (st : Int) (x y : Option V), σ = [some (.ref a), some (.int i), some (.int cell), some (.int st), x, y]) ∧ H2 q = some (.lst (cutV (ns.map V.int) none (some 63))) ∧ But (fun _ => False) H1 H2)
        ⟨⟨_, _, _, rfl⟩, upd_same, But.new hq⟩ (fun _ _ _ _ h => SqL.of h.2.1) ?_ ?_⟩
      · rintro j x σ H2 H3 hj ⟨⟨st, y, z, rfl⟩, h2, g2⟩ ⟨t, u, v, rfl, ht, rfl, hu, hv⟩
        injection hu with hu
        subst hu
        have hm : v ∈ ns.map V.int := cut_mem (List.mem_of_getElem? hv)
        obtain ⟨m, _, rfl⟩ := List.mem_map.mp hm
        have ntq : t ≠ q := (ne_of_none h2 ht).symm
        refine ⟨t, _, rfl, .inl (.inl upd_same), rfl, _, _, rfl, _, _, rfl, rfl, ?_⟩
        refine ⟨_, rfl, _, _, rfl, rfl, .inr ⟨by decide, by decide⟩, _, rfl, .inl ⟨_, rfl, _, _, rfl, rfl, (by decide : (0 : Int) < 998244353), _, _, rfl, rfl, _, rfl, _, _, rfl, rfl, .inl ⟨by decide, by decide⟩, _, _, rfl, rfl, .inl ⟨_, rfl, _, _, rfl, rfl, (by decide : (0 : Int) < 2147483647), ?_⟩⟩⟩
        exact ⟨⟨_, _, _, rfl⟩, by rw [upd_ne ntq.symm]; exact h2, g2.trans (But.new ht)⟩
      · rintro σ H2 ⟨⟨st, y, z, rfl⟩, h2, g2⟩
        refine ⟨_, rfl, _, _, rfl, rfl, ⟨by decide, by decide, by decide⟩, _, _, rfl, rfl, _, rfl, ite2 (fun h => ?_) (fun h => ?_)⟩
        · exact ⟨_, rfl, _, rfl, szle (by simp), fun p hp => k p _ (g2.free hp) ⟨_, _, _, upd_same⟩ (g2.trans (But.new hp))⟩
        · exact ⟨_, rfl, szle (by simp), fun p hp => k p _ (g2.free hp) ⟨_, _, _, upd_same⟩ (g2.trans (But.new hp))⟩
theorem scValue : FnScope ["_law_source_here", "_law_kind"] ["_law_source_here"] (defScope sValue) := ⟨rfl, rfl, rfl, by decide +kernel, rfl, by decide +kernel, by decide +kernel⟩
theorem ok_value {f : Addr} {fd : FuncData} (F : Fun K "_law_value" "_law_value" sValue f fd) (cTake : Cl P w K mg base 1 "_law_take" spTake []) : FnOk P w K mg base CX0 2 f fd ["_law_source_here"] spValue := by
  refine F.ok scValue (fun vs H Q E h => ?_) (fun cdv A outer s H vs Q E hr h => ?_)
  · obtain ⟨a, rfl, _⟩ := h
    rfl
  · obtain ⟨a, rfl, S, k⟩ := h
    refine ⟨_, (pss_cons (ps_set (i := 1) scValue.nd rfl (.inl rfl) (pe_c cTake hr (by decide) rfl (pa_cons (pv 0) (pa_cons pe_int pa_nil))))
      (pss_cons (ps_if (pt_cmpR op_lt (pv 1) pe_int (nomark _))
      (pss_one (ps_ret (pe_op op_sub (pe_c cTake hr (by decide) rfl (pa_cons (pv 0) (pa_cons pe_int pa_nil))) pe_int)))
      pss_nil)
      (pss_cons (ps_if (pt_cmpR op_eq (pv 1) pe_int (nomark _))
      (pss_one (ps_ret (pe_op op_sub (pe_op op_pow pe_int pe_int) (pe_op op_mul (pe_op op_mul pe_int (pe_op op_pow pe_int pe_int)) (pe_c cTake hr (by decide) rfl (pa_cons (pv 0) (pa_cons pe_int pa_nil)))))))
      pss_nil)
      (pss_cons (ps_if (pt_cmpR op_eq (pv 1) pe_int (nomark _))
      (pss_one (ps_ret (pe_op op_add (pe_op op_mul (pe_c cTake hr (by decide) rfl (pa_cons (pv 0) (pa_cons (pe_op op_pow pe_int pe_int) pa_nil))) (pe_op op_pow pe_int pe_int)) (pe_c cTake hr (by decide) rfl (pa_cons (pv 0) (pa_cons (pe_op op_pow pe_int pe_int) pa_nil))))))
      pss_nil)
      (pss_one (ps_ret (pe_op op_sub (pe_c cTake hr (by decide) rfl (pa_cons (pv 0) (pa_cons (pe_op op_add (pe_op op_mul pe_int (pe_op op_pow pe_int pe_int)) pe_int) pa_nil))) (pe_op op_pow pe_int pe_int)))))))), ?_⟩
    have up : ∀ c st n : Int, SrcAt (upd H a (src c st n)) a := fun c st n => ⟨c, st, n, upd_same⟩
    refine ⟨_, rfl, a, 6, rfl, by decide, by decide, S, fun kind c st n k0 k1 => ?_⟩
    refine ⟨_, rfl, _, _, rfl, rfl, _, rfl, ite2 (fun h => ?_) (fun h => ?_)⟩
    · refine ⟨_, rfl, a, 5, rfl, by decide, by decide, up _ _ _, fun r c st n r0 r1 => ?_⟩
      rw [upd_twice]
      refine ⟨_, _, rfl, rfl, k _ _ _ _ ⟨by omega, by omega⟩⟩
    refine ⟨_, rfl, rfl, _, rfl, ite2 (fun h => ?_) (fun h => ?_)⟩
    · refine ⟨_, _, rfl, rfl, ⟨by decide, by decide, by decide⟩, _, _, rfl, rfl, ⟨by decide, by decide, by decide⟩, _, _, rfl, rfl, .inl ⟨by decide, by decide⟩, _, rfl, a, 2, rfl, by decide, by decide, up _ _ _, fun r c st n r0 r1 => ?_⟩
      rw [upd_twice]
      refine ⟨_, _, rfl, rfl, .inr ⟨by omega, by omega⟩, _, _, rfl, rfl, k _ _ _ _ ?_⟩
      have e : (10 : Int) ^ (30 : Int).toNat = 10 ^ 30 := rfl
      rw [e]
      have : r = 0 ∨ r = 1 := by omega
      rcases this with rfl | rfl
      · exact ⟨by decide, by decide⟩
      · exact ⟨by decide, by decide⟩
    refine ⟨_, rfl, rfl, _, rfl, ite2 (fun h => ?_) (fun h => ?_)⟩
    · refine ⟨_, rfl, _, _, rfl, rfl, ⟨by decide, by decide, by decide⟩, a, 1000000, rfl, by decide, by decide, up _ _ _, fun r c st n r0 r1 => ?_⟩
      rw [upd_twice]
      refine ⟨_, _, rfl, rfl, ⟨by decide, by decide, by decide⟩, _, _, rfl, rfl, .inl ⟨by omega, by omega⟩, _, rfl, _, _, rfl, rfl, ⟨by decide, by decide, by decide⟩, a, 1000000, rfl, by decide, by decide, up _ _ _, fun r' c st n r0' r1' => ?_⟩
      rw [upd_twice]
      refine ⟨_, _, rfl, rfl, k _ _ _ _ ?_⟩
      have e : (10 : Int) ^ (24 : Int).toNat = 1000000000000000000000000 := rfl
      rw [e]
      exact ⟨by omega, by omega⟩
    · refine ⟨_, rfl, _, _, rfl, rfl, ⟨by decide, by decide, by decide⟩, _, _, rfl, rfl, .inl ⟨by decide, by decide⟩, _, _, rfl, rfl, a, 2000000000000000000000000000001, rfl, by decide, by decide +kernel, up _ _ _, fun r c st n r0 r1 => ?_⟩
      rw [upd_twice]
      refine ⟨_, _, rfl, rfl, ⟨by decide, by decide, by decide⟩, _, _, rfl, rfl, k _ _ _ _ ?_⟩
      have e : (10 : Int) ^ (30 : Int).toNat = 1000000000000000000000000000000 := rfl
      rw [e]
      exact ⟨by omega, by omega⟩
abbrev NValues : List Str := ["_law_source_here", "_law_most", "_law_found", "_law_turn"]
theorem scValues : FnScope NValues ["_law_source_here", "_law_most"] (defScope sValues) := ⟨rfl, rfl, rfl, by decide +kernel, rfl, by decide +kernel, by decide +kernel⟩
theorem ok_values {f : Addr} {fd : FuncData} (F : Fun K "_law_values" "_law_values" sValues f fd) (T : Bn mg) (cTake : Cl P w K mg base 1 "_law_take" spTake []) (cValue : Cl P w K mg base 2 "_law_value" spValue []) :
    FnOk P w K mg base CX0 3 f fd ["_law_source_here", "_law_most"] spValues := by
  refine F.ok scValues (fun vs H Q E h => ?_) (fun cdv A outer s H vs Q E hr h => ?_)
  · obtain ⟨a, most, rfl, _⟩ := h
    rfl
  · obtain ⟨a, most, rfl, hm, S, k⟩ := h
    refine ⟨_, (pss_cons (ps_setLc (i := 2) (own := [("_law_turn", 3)]) (g := gName 3) (tt := tYes) rfl scValues.nd rfl rfl (sw_true rfl rfl rfl (by decide +kernel)) (pi_range1 (by rfl) T.range (pa_cons (pe_c cTake hr (by decide) rfl (pa_cons (pv 0) (pa_cons (pe_op op_add (pv 1) pe_int) pa_nil))) pa_nil)) (blkOk_by (own := [("_law_turn", 3)]) (N := NValues) (sc := defScope sValues) (by decide +kernel))
        (fun _ _ _ _ _ => (pg_name (i := 3) scValues.nd rfl (.inl rfl))) (fun _ _ _ _ _ => pts_nil) (fun _ _ _ _ _ => (pe_c cValue hr (by decide) rfl (pa_cons (pv 0) pa_nil))))
      (pss_one (ps_ret (pe_op op_cat (pv 2) (pe_slice sl_list (pv 2) po_none (po_some (pe_c cTake hr (by decide) rfl (pa_cons (pv 0) (pa_cons pe_int pa_nil))))))))), ?_⟩
    refine ⟨_, rfl, _, rfl, _, _, rfl, rfl, a, most + 1, rfl, by omega, ?_, S, fun r c st n r0 r1 => ?_⟩
    · refine Nat.lt_of_le_of_lt (m := 7) ?_ (by decide)
      rw [show ((most : Int) + 1).natAbs = most + 1 by omega]
      rcases Nat.eq_zero_or_pos (most + 1) with h | h
      · omega
      · exact Nat.le_of_lt_succ ((Nat.log2_lt (by omega)).mpr (by omega))
    · obtain ⟨m, rfl⟩ := Int.eq_ofNat_of_zero_le r0
      refine ⟨_, rfl, by omega, by omega, fun D hD => ?_⟩
      have hDa : D ≠ a := (ne_of_none upd_same hD).symm
      have hD0 : H D = none := by rw [upd_ne hDa] at hD; exact hD
      refine lc_range (lo := 0) (n := (m : Int).toNat) (fun i H1 => ∃ ns : List Int, H1 D = some (.lst (ns.map V.int)) ∧ ns.length = i ∧ (∀ n ∈ ns, Fits n) ∧ SrcAt H1 a ∧ But (· = a) H H1) ⟨[], upd_same, rfl, by simp, ⟨_, _, _, by rw [upd_ne hDa.symm]; exact upd_same⟩, (But.at (S := (· = a)) rfl).fresh hD0⟩ (fun i H1 hi h => ?_) (fun H1 h => ?_)
      · obtain ⟨ns, h1, h2, h3, h4, h5⟩ := h
        refine ⟨rfl, ?_⟩
        refine ⟨_, rfl, a, rfl, h4, fun v c st n hv => ⟨ns.map V.int, ?_, ?_, ns ++ [v], ?_, ?_, ?_, ?_, ?_⟩⟩
        · rw [upd_ne hDa]; exact h1
        · rw [List.length_map]; exact szl (by omega)
        · rw [upd_same, List.map_append]; rfl
        · rw [List.length_append, h2]; rfl
        · intro x hx
          rcases List.mem_append.mp hx with hx | hx
          · exact h3 x hx
          · rw [List.mem_singleton.mp hx]; exact hv
        · exact ⟨c, st, n, by rw [upd_ne hDa.symm]; exact upd_same⟩
        · exact (h5.trans (But.at rfl)).fresh hD0
      · obtain ⟨ns, h1, h2, h3, h4, h5⟩ := h
        have h2' : ns.length = m := by rw [h2]; simp
        refine ⟨_, rfl, _, rfl, _, rfl, a, 2, rfl, by decide, by decide, h4, fun r c st n r0 r1 => ?_⟩
        obtain ⟨j, rfl⟩ := Int.eq_ofNat_of_zero_le r0
        have h1' : (upd H1 a (src c st n)) D = some (.lst (ns.map V.int)) := by rw [upd_ne hDa]; exact h1
        refine ⟨_, rfl, D, _, rfl, SqL.of h1', fun q hq => ?_⟩
        have hqD : q ≠ D := (ne_of_none h1' hq).symm
        have hqa : q ≠ a := (ne_of_none upd_same hq).symm
        rw [cut_to, take_map]
        refine ⟨D, q, _, _, rfl, rfl, by rw [upd_ne hqD.symm]; exact h1', upd_same, ?_, fun p hp => ?_⟩
        · simp only [List.length_map, List.length_take]; exact szle (by omega)
        · have g : But (· = a) H (upd (upd H1 a (src c st n)) q (.lst ((ns.take j).map V.int))) := (h5.trans (But.at rfl)).trans (But.new hq)
          have hpa : p ≠ a := fun e => by
            subst e
            rw [upd_ne hqa.symm, upd_same] at hp
            cases hp
          have hp0 : H p = none := by
            cases e : H p with
            | none => rfl
            | some o => rw [g p o e hpa] at hp; cases hp
          rw [← List.map_append]
          refine k p (ns ++ ns.take j) _ hp0 upd_same ?_ ?_ ?_ (g.trans (But.new hp))
          · simp only [List.length_append, List.length_take]; omega
          · intro x hx
            rcases List.mem_append.mp hx with hx | hx
            · exact h3 x hx
            · exact h3 x (List.mem_of_mem_take hx)
          · exact ⟨c, st, n, by rw [upd_ne hpa.symm, upd_ne hqa.symm]; exact upd_same⟩
end
end K09

set_option Elab.async false
set_option linter.all false
set_option maxRecDepth 100000
set_option maxHeartbeats 4000000
set_option pp.maxSteps 300
namespace K09
open PySem L2 L2.G42
open Evl (pss_cut)
open PyProof.Rows (boot_isinstance boot_int boot_bool boot_list boot_set boot_abs boot_enumerate boot_tuple)
abbrev sIsNum : Stmt := top 5
abbrev sIsVal : Stmt := top 8
abbrev sOf : Stmt := top 13
abbrev sAny : Stmt := top 16
abbrev sIsV : Stmt := top 17
section
variable {P : Program} {w : World} {K : PySem.W.Frag} {mg : Str → Option Value} {base : Heap}
theorem scIsNum : FnScope ["thing"] ["thing"] (defScope sIsNum) := ⟨rfl, rfl, rfl, by decide +kernel, rfl, by decide +kernel, by decide +kernel⟩
theorem ok_isNum {f : Addr} {fd : FuncData} (F : Fun K "is_number" "is_number" sIsNum f fd) (T : Bn mg) : FnOk P w K mg base CX0 1 f fd ["thing"] (spIsNum K) := by
  refine F.ok scIsNum (fun vs H Q E h => ?_) (fun cdv A outer s H vs Q E hr h => ?_)
  · obtain ⟨x, d, rfl, _⟩ := h
    rfl
  · obtain ⟨x, d, rfl, hd, k⟩ := h
    refine ⟨_, pss_one (ps_ret (pe_and (pe_callB call_isi (by rfl) T.isi boot_isinstance (pa_cons (pv 0) (pa_cons (pe_bltn (v := .ty "int") (by rfl) T.int boot_int rfl) pa_nil)))
      (pe_one (pe_not (pe_callB call_isi (by rfl) T.isi boot_isinstance (pa_cons (pv 0) (pa_cons (pe_bltn (v := .ty "bool") (by rfl) T.bool boot_bool rfl) pa_nil))))))), ?_⟩
    refine ⟨_, rfl, x, .ty "int", _, _, _, rfl, .ty _, ty_d hd, kit_isInt (Dp.nd hd), _, rfl, ite2 (fun h => ?_) (fun h => ?_)⟩
    · refine ⟨_, rfl, x, .ty "bool", _, _, _, rfl, .ty _, ty_d hd, kit_isBool (Dp.nd hd), _, rfl, ?_⟩
      cases d <;> first | exact k | cases h
    · cases d <;> first | exact k | exact absurd rfl h
theorem scIsVal : FnScope ["thing"] ["thing"] (defScope sIsVal) := ⟨rfl, rfl, rfl, by decide +kernel, rfl, by decide +kernel, by decide +kernel⟩
theorem ok_isVal {f : Addr} {fd : FuncData} (F : Fun K "is_value" "is_value" sIsVal f fd) (gr : ∃ t, mg "GREATEST" = some (.int (10 ^ 30) t)) (cNum : Cl P w K mg base 1 "is_number" (spIsNum K) []) :
    FnOk P w K mg base CX0 2 f fd ["thing"] (spIsVal K) := by
  refine F.ok scIsVal (fun vs H Q E h => ?_) (fun cdv A outer s H vs Q E hr h => ?_)
  · obtain ⟨x, d, rfl, _⟩ := h
    rfl
  · obtain ⟨x, d, rfl, hd, k⟩ := h
    obtain ⟨t, gr⟩ := gr
    refine ⟨_, pss_one (ps_ret (pe_and (pe_c cNum hr (by decide) rfl (pa_cons (pv 0) pa_nil))
      (pe_one (pe_chain op_le op_le (pe_un un_neg (pe_glob (v := .int (10 ^ 30)) rfl gr ⟨t, rfl⟩)) (pv 0) (pe_glob (v := .int (10 ^ 30)) rfl gr ⟨t, rfl⟩))))), ?_⟩
    refine ⟨_, rfl, x, d, rfl, hd, _, rfl, ite2 (fun h => ?_) (fun h => ?_)⟩
    · cases hd with
      | int n =>
        refine ⟨_, rfl, _, rfl, _, _, rfl, rfl, _, rfl, ite2 (fun h1 => ?_) (fun h1 => ?_)⟩
        · refine ⟨_, _, rfl, rfl, ?_⟩
          have h1' : -(10 ^ 30) ≤ n := of_decide_eq_true h1
          have e : decide (n ≤ 10 ^ 30) = isVal (.int n) := by
            show _ = decide (Fits n)
            by_cases q : n ≤ 10 ^ 30
            · rw [decide_eq_true q, decide_eq_true (show Fits n from ⟨h1', q⟩)]
            · rw [decide_eq_false q, decide_eq_false (fun z : Fits n => q z.2)]
          show Q (.bl (decide (n ≤ 10 ^ 30))) H
          rw [e]
          exact k
        · have e : isVal (.int n) = false := decide_eq_false (fun z : Fits n => h1 (decide_eq_true z.1))
          rw [e] at k
          exact k
      | _ => cases h
    · have e : isVal d = false := by cases d <;> first | rfl | exact absurd rfl h
      rw [e] at k
      exact k
theorem scIsV : FnScope ["_law_thing"] ["_law_thing"] (defScope sIsV) := ⟨rfl, rfl, rfl, by decide +kernel, rfl, by decide +kernel, by decide +kernel⟩
theorem ok_isV {f : Addr} {fd : FuncData} (F : Fun K "_law_is_value" "_law_is_value" sIsV f fd) (T : Bn mg) : FnOk P w K mg base CX0 1 f fd ["_law_thing"] (spIsVal K) := by
  refine F.ok scIsV (fun vs H Q E h => ?_) (fun cdv A outer s H vs Q E hr h => ?_)
  · obtain ⟨x, d, rfl, _⟩ := h
    rfl
  · obtain ⟨x, d, rfl, hd, k⟩ := h
    refine ⟨_, (pss_one (ps_ret (pe_and (pe_callB call_isi (by rfl) T.isi boot_isinstance (pa_cons (pv 0) (pa_cons (pe_bltn (v := .ty "int") (by rfl) T.int boot_int rfl) pa_nil))) (pe_and (pe_not (pe_callB call_isi (by rfl) T.isi boot_isinstance (pa_cons (pv 0) (pa_cons (pe_bltn (v := .ty "bool") (by rfl) T.bool boot_bool rfl) pa_nil)))) (pe_one (pe_chain op_le op_le (pe_un un_neg (pe_op op_pow pe_int pe_int)) (pv 0) (pe_op op_pow pe_int pe_int))))))), ?_⟩
    refine ⟨_, rfl, x, .ty "int", _, _, _, rfl, .ty _, ty_d hd, kit_isInt (Dp.nd hd), _, rfl, ite2 (fun h => ?_) (fun h => ?_)⟩
    · refine ⟨_, rfl, x, .ty "bool", _, _, _, rfl, .ty _, ty_d hd, kit_isBool (Dp.nd hd), _, rfl, _, rfl, ite2 (fun h2 => ?_) (fun h2 => ?_)⟩
      · cases hd with
        | int n =>
          refine ⟨_, _, rfl, rfl, ⟨by decide, by decide, by decide⟩, _, rfl, _, rfl, _, _, rfl, rfl, _, rfl, ite2 (fun h1 => ?_) (fun h1 => ?_)⟩
          · refine ⟨_, _, rfl, rfl, ⟨by decide, by decide, by decide⟩, _, _, rfl, rfl, ?_⟩
            have e0 : (10 : Int) ^ (30 : Int).toNat = 10 ^ 30 := rfl
            rw [e0] at h1 ⊢
            have h1' : -(10 ^ 30) ≤ n := of_decide_eq_true h1
            have e : decide (n ≤ 10 ^ 30) = isVal (.int n) := by
              show _ = decide (Fits n)
              by_cases q : n ≤ 10 ^ 30
              · rw [decide_eq_true q, decide_eq_true (show Fits n from ⟨h1', q⟩)]
              · rw [decide_eq_false q, decide_eq_false (fun z : Fits n => q z.2)]
            show Q (.bl (decide (n ≤ 10 ^ 30))) H
            rw [e]
            exact k
          · have e : isVal (.int n) = false := decide_eq_false (fun z : Fits n => h1 (decide_eq_true z.1))
            rw [e] at k
            exact k
        | bl b => cases h2
        | _ => cases h
      · have e : isVal d = false := by cases d <;> first | rfl | exact absurd rfl h2
        rw [e] at k
        exact k
    · have e : isVal d = false := by cases d <;> first | rfl | exact absurd rfl h
      rw [e] at k
      exact k
theorem scOf : FnScope ["_law_source_here", "_law_some"] ["_law_source_here", "_law_some"] (defScope sOf) := ⟨rfl, rfl, rfl, by decide +kernel, rfl, by decide +kernel, by decide +kernel⟩
theorem log_small {n : Nat} (h : n ≤ 1000) : ((n : Int)).natAbs.log2 < 9000 := by
  rw [Int.natAbs_natCast]
  exact Nat.lt_of_le_of_lt (Nat.log2_le_self n) (by omega)
theorem ok_of {f : Addr} {fd : FuncData} (F : Fun K "_law_of" "_law_of" sOf f fd) (T : Bn mg) (cTake : Cl P w K mg base 1 "_law_take" spTake []) : FnOk P w K mg base CX0 2 f fd ["_law_source_here", "_law_some"] (spOf K) := by
  refine F.ok scOf (fun vs H Q E h => ?_) (fun cdv A outer s H vs Q E hr h => ?_)
  · obtain ⟨a, l, xs, rfl, _⟩ := h
    rfl
  · obtain ⟨a, l, xs, rfl, S, hl, ne, h0, h1, k⟩ := h
    refine ⟨_, (pss_one (ps_ret (pe_ix ix_list (pv 1) (pe_c cTake hr (by decide) rfl (pa_cons (pv 0) (pa_cons (pe_callB call_len_seq (by rfl) T.len PySem.boot_len (pa_cons (pv 1) pa_nil)) pa_nil))) (fun _ _ => rfl)))), ?_⟩
    refine ⟨_, rfl, _, rfl, _, rfl, l, xs, rfl, .inl hl, a, _, rfl, by omega, log_small h1, S, fun r c st n r0 r1 => ?_⟩
    obtain ⟨i, rfl⟩ := Int.eq_ofNat_of_zero_le r0
    have hi : i < xs.length := by omega
    refine ⟨l, _, _, xs[i], rfl, rfl, SqL.but hl (But.at (S := (· = a)) rfl) (fun e => ne e.symm), atI_nat (List.getElem?_eq_getElem hi), k i _ c st n (List.getElem?_eq_getElem hi)⟩
end
end K09

set_option Elab.async false
set_option linter.all false
set_option maxRecDepth 100000
set_option maxHeartbeats 4000000
set_option pp.maxSteps 300
namespace K09
open PySem L2 L2.G42
open Evl (pss_cut)
open PyProof.Rows (boot_isinstance boot_int boot_bool boot_list boot_set boot_abs boot_enumerate boot_tuple)
abbrev NAny : List Str := ["_law_source_here", "_law_atoms", "_law_depth", "_law_kind", "_law_parts", "_law_turn"]
theorem scAny : FnScope NAny ["_law_source_here", "_law_atoms", "_law_depth"] (defScope sAny) := ⟨rfl, rfl, rfl, by decide +kernel, rfl, by decide +kernel, by decide +kernel⟩
def ifBody : Stmt → List Stmt
  | .If _ b _ _ => b
  | _ => []
def brAny : List Stmt := ifBody ((defBody sAny).getD 1 (.Pass ⟨0, 0, 0, 0⟩))
def tlAny : List Stmt := (defBody sAny).drop 2
section
variable {P : Program} {w : World} {K : PySem.W.Frag} {mg : Str → Option Value} {base : Heap} {f : Addr} {cdv : Value} {A : Around} {outer : List Env} {s0 : Shared} {H0 : Hp} {E0' : XK}
abbrev XAny (P : Program) (w : World) (K : PySem.W.Frag) (mg : Str → Option Value) (base : Heap) (f : Addr) (cdv : Value) (A : Around) (outer : List Env) (s : Shared) (H : Hp) (E : XK) : Cx := (cxOf CX0 P w K mg base NAny "_law_any" (defScope sAny) f cdv A outer s H E).nox
theorem src_ne {H : Hp} {a : Addr} (h : SrcAt H a) : H a ≠ none := by
  obtain ⟨c, st, n, e⟩ := h
  rw [e]
  simp
/-- the source may move -/
theorem any_adv {dep : Nat} {a l : Addr} {H : Hp} {Q : VK} {E E' : XK} (h : spAny K dep [.ref a, .ref l, .int dep] H Q E) (c st n : Int) : spAny K dep [.ref a, .ref l, .int dep] (upd H a (src c st n)) Q E' := by
  obtain ⟨a', l', xs, ds, G, m, s, e, S, hl, ne, p, ga, dp, gd, s45, x0, x1, k⟩ := h
  simp only [List.cons.injEq, V.ref.injEq, and_true] at e
  obtain ⟨rfl, rfl, _⟩ := e
  refine ⟨a, l, xs, ds, G, m, s, rfl, ⟨c, st, n, upd_same⟩, SqL.but hl (But.at (S := (· = a)) rfl) (fun e => ne e.symm), ne, p.upd ga, ga, dp, gd, s45, x0, x1, fun v d G' H' b S' p1 p2 fr dp' gd' => ?_⟩
  refine k v d G' H' ((But.at (S := (· = a)) rfl).trans b) S' p1 p2 (fun b hb hg => fr b ?_ hg) dp' gd'
  by_cases e : b = a
  · subst e; rw [upd_same]; simp
  · rw [upd_ne e]; exact hb
theorem br_any {k m : Nat} (T : Bn mg) (cTake : Cl P w K mg base 1 "_law_take" spTake []) (cAny : Cl P w K mg base k "_law_any" (spAny K m) []) (h1 : 1 ≤ k) (hr : Room k (XAny P w K mg base f cdv A outer s0 H0 E0').A) :
    ∃ t, PSs (XAny P w K mg base f cdv A outer s0 H0 E0') brAny t ∧ ∀ (a l : Addr) (kind : Int) (H : Hp) (D : Ends) (E : XK), spAny K (m + 1) [.ref a, .ref l, .int ((m + 1 : Nat) : Int)] H D.rt E → t D [some (.ref a), some (.ref l), some (.int ((m + 1 : Nat) : Int)), some (.int kind), none, none] H := by
  refine ⟨_, (pss_cons (ps_setLc (i := 4) (own := [("_law_turn", 5)]) (g := gName 5) (tt := tYes) rfl scAny.nd rfl rfl (sw_true rfl rfl rfl (by decide +kernel)) (pi_range1 (by rfl) T.range (pa_cons (pe_c cTake hr h1 rfl (pa_cons (pv 0) (pa_cons pe_int pa_nil))) pa_nil)) (blkOk_by (own := [("_law_turn", 5)]) (N := NAny) (sc := defScope sAny) (by decide +kernel))
    (fun _ _ _ _ _ => (pg_name (i := 5) scAny.nd rfl (.inl rfl))) (fun _ _ _ _ _ => pts_nil) (fun _ _ _ _ _ => (pe_c cAny hr (Nat.le_refl _) rfl (pa_cons (pv 0) (pa_cons (pv 1) (pa_cons (pe_op op_sub (pv 2) pe_int) pa_nil))))))
        (pss_one (ps_ret (pe_ifExp (pt_cmpR op_eq (pv 3) pe_int (nomark _)) (pe_callTy call_tuple_of (by rfl) T.tuple boot_tuple (pa_cons (pv 4) pa_nil)) (pv 4))))), ?_⟩
  intro a l kind H D E h
  obtain ⟨a', l', xs, ds0, G, n, s, e, S, hl, ne, p, ga, dp, gd, s45, x0, x1, kk⟩ := h
  simp only [List.cons.injEq, V.ref.injEq, and_true] at e
  obtain ⟨rfl, rfl, _⟩ := e
  refine ⟨_, rfl, a, 4, rfl, by decide, by decide, S, fun r c st z r0 r1 => ?_⟩
  obtain ⟨q, rfl⟩ := Int.eq_ofNat_of_zero_le r0
  refine ⟨_, rfl, by omega, by omega, fun L hL => ?_⟩
  have hLa : L ≠ a := (ne_of_none upd_same hL).symm
  have hL0 : H L = none := by rw [upd_ne hLa] at hL; exact hL
  refine lc_range (lo := 0) (n := (q : Int).toNat) (fun i H1 => ∃ (vs : List V) (ds : List PyData) (G' : Hp), H1 L = some (.lst vs) ∧ vs.length = i ∧ DpAll K G' vs ds ∧ (∀ d ∈ ds, Gd (n + m) (wide m s) d) ∧ Part G G' ∧ Part G' H1 ∧ SrcAt H1 a ∧ But (· = a) H H1 ∧ (∀ b, H b ≠ none → G b = none → G' b = none) ∧ G' L = none)
    ⟨[], [], G, upd_same, rfl, .nil, by simp, Part.refl, ?_, ⟨_, _, _, by rw [upd_ne hLa.symm]; exact upd_same⟩, (But.at (S := (· = a)) rfl).fresh hL0, fun _ _ h => h, p.free hL0⟩ (fun i H1 hi h => ?_) (fun H1 h => ?_)
  · exact (p.upd ga).upd (p.free hL0)
  · obtain ⟨vs, ds, G', h1, h2, h3, h4, h5, h6, h7, h8, h9, h10⟩ := h
    refine ⟨rfl, _, rfl, _, rfl, _, rfl, _, _, rfl, rfl, ?_⟩
    have em : ((m + 1 : Nat) : Int) - 1 = (m : Int) := by omega
    show spAny K m ([.ref a, .ref l, .int (((m + 1 : Nat) : Int) - 1)] ++ []) H1 _ E0
    rw [em]
    refine ⟨a, l, xs, ds0, G', n, s, rfl, h7, SqL.but hl h8 (fun e => ne e.symm), ne, h6, h9 a (src_ne S) ga, DpAll.part h5 _ _ dp, gd, s45, x0, x1, fun v d G2 H2 b2 S2 p1 p2 fr dp2 gd2 => ?_⟩
    have hD : H2 L = some (.lst vs) := b2 _ _ h1 hLa
    refine ⟨vs, hD, szl (by omega), vs ++ [v], ds ++ [d], G2, upd_same, by rw [List.length_append, h2]; rfl, DpAll.append (DpAll.part p1 _ _ h3) (.cons dp2 .nil), ?_, h5.trans p1, ?_, ?_, (h8.trans b2).fresh hL0, ?_, ?_⟩
    · intro x hx
      rcases List.mem_append.mp hx with hx | hx
      · exact h4 x hx
      · rw [List.mem_singleton.mp hx]; exact gd2
    · exact p2.upd (fr L (by rw [h1]; simp) h10)
    · obtain ⟨c, st, z, e⟩ := S2
      exact ⟨c, st, z, by rw [upd_ne hLa.symm]; exact e⟩
    · intro b hb hg
      refine fr b ?_ (h9 b hb hg)
      by_cases e : b = a
      · subst e; exact src_ne h7
      · cases q : H b with
        | none => exact absurd q hb
        | some o => rw [h8 b o q e]; simp
    · exact fr L (by rw [h1]; simp) h10
  · obtain ⟨vs, ds, G', h1, h2, h3, h4, h5, h6, h7, h8, h9, h10⟩ := h
    have hlen : ds.length ≤ 3 := by rw [← DpAll.len h3, h2]; omega
    have hw : ds.length * wide m s + 2 * ds.length + 3 ≤ wide (m + 1) s := by
      show _ ≤ 3 * wide m s + 9
      have := Nat.mul_le_mul_right (wide m s) hlen
      omega
    refine ⟨_, rfl, rfl, _, rfl, ite2 (fun _ => ?_) (fun _ => ?_)⟩
    · refine ⟨_, rfl, L, vs, rfl, .inl ⟨SqL.of h1, fun t ht => ?_⟩⟩
      have gt : G' t = none := h6.free ht
      have hta : t ≠ a := fun e => src_ne h7 (e ▸ ht)
      refine kk (.ref t) (.tuple ds) (upd G' t (.tup vs)) _ (h8.trans (But.new ht)) ?_ (h5.trans (Part.refl.upd gt)) h6.both (fun b hb hg => ?_) (.tup (.inl (.inl upd_same)) (DpAll.part (Part.refl.upd gt) _ _ h3)) ((Gd.tuple h4).mono (by omega) hw)
      · obtain ⟨c, st, z, e⟩ := h7
        exact ⟨c, st, z, by rw [upd_ne hta.symm]; exact e⟩
      · have hbt : b ≠ t := fun e => by
          subst e
          by_cases e2 : b = a
          · exact hta e2
          · cases q : H b with
            | none => exact hb q
            | some o => rw [h8 b o q e2] at ht; cases ht
        rw [upd_ne hbt]
        exact h9 b hb hg
    · refine ⟨_, rfl, kk (.ref L) (.list ds) (upd G' L (.lst vs)) _ h8 h7 (h5.trans (Part.refl.upd h10)) (h6.add h1) (fun b hb hg => ?_) (.lst (SqL.of upd_same) (DpAll.part (Part.refl.upd h10) _ _ h3)) ((Gd.list h4).mono (by omega) hw)⟩
      rw [upd_ne (fun e : b = L => hb (by rw [e]; exact hL0))]
      exact h9 b hb hg
/-- the constants -/
theorem any_const {dep : Nat} {a l : Addr} {H : Hp} {Q : VK} {E E' : XK} {ws : List V} {es : List PyData} (h : spAny K dep [.ref a, .ref l, .int dep] H Q E) (hd : ∀ G : Hp, DpAll K G ws es) (he : ∀ d ∈ es, leafOk d = true) (h0 : 0 < ws.length) (h1 : ws.length ≤ 1000) :
    ∀ p, H p = none → spOf K ([.ref a, .ref p] ++ []) (upd H p (.lst ws)) Q E' := by
  obtain ⟨a', l', xs, ds0, G, n, s, e, S, hl, ne, p, ga, dp, gd, s45, x0, x1, kk⟩ := h
  simp only [List.cons.injEq, V.ref.injEq, and_true] at e
  obtain ⟨rfl, rfl, _⟩ := e
  intro t ht
  have hta : t ≠ a := fun e => src_ne S (e ▸ ht)
  refine ⟨a, t, ws, rfl, ?_, SqL.of upd_same, hta.symm, h0, h1, fun i v c st z hv => ?_⟩
  · obtain ⟨c, st, z, e⟩ := S
    exact ⟨c, st, z, by rw [upd_ne hta.symm]; exact e⟩
  · obtain ⟨d, e1, e2⟩ := DpAll.at (hd G) hv
    refine kk v d G _ ((But.new ht).trans (But.at rfl)) ⟨c, st, z, upd_same⟩ Part.refl ((p.grow (But.new ht)).upd ga) (fun _ _ h => h) e2 (Gd.leaf (he d (List.mem_of_getElem? e1)) (Nat.le_trans s45 (wide_le s dep)))
theorem any_atom {dep : Nat} {a l : Addr} {H : Hp} {Q : VK} {E E' : XK} (h : spAny K dep [.ref a, .ref l, .int dep] H Q E) : spOf K ([.ref a, .ref l] ++ []) H Q E' := by
  obtain ⟨a', l', xs, ds0, G, n, s, e, S, hl, ne, p, ga, dp, gd, s45, x0, x1, kk⟩ := h
  simp only [List.cons.injEq, V.ref.injEq, and_true] at e
  obtain ⟨rfl, rfl, _⟩ := e
  refine ⟨a, l, xs, rfl, S, hl, ne, x0, x1, fun i v c st z hv => ?_⟩
  obtain ⟨d, e1, e2⟩ := DpAll.at dp hv
  exact kk v d G _ (But.at rfl) ⟨c, st, z, upd_same⟩ Part.refl (p.upd ga) (fun _ _ h => h) e2 ((gd d (List.mem_of_getElem? e1)).mono (by omega) (wide_le s dep))
theorem tl_any {k dep : Nat} (cOf : Cl P w K mg base 2 "_law_of" (spOf K) []) (h1 : 2 ≤ k) (hr : Room k (XAny P w K mg base f cdv A outer s0 H0 E0').A) :
    ∃ t, PSs (XAny P w K mg base f cdv A outer s0 H0 E0') tlAny t ∧ ∀ (a l : Addr) (kind : Int) (H : Hp) (D : Ends) (E : XK), spAny K dep [.ref a, .ref l, .int dep] H D.rt E → t D [some (.ref a), some (.ref l), some (.int dep), some (.int kind), none, none] H := by
  refine ⟨_, (pss_cons (ps_if (pt_cmpR op_eq (pv 3) pe_int (nomark _))
      (pss_one (ps_ret (pe_c cOf hr h1 rfl (pa_cons (pv 0) (pa_cons (pe_lst (pa_cons pe_bl (pa_cons pe_bl (pa_cons pe_non pa_nil)))) pa_nil)))))
      pss_nil)
      (pss_cons (ps_if (pt_cmpR op_eq (pv 3) pe_int (nomark _))
      (pss_one (ps_ret (pe_c cOf hr h1 rfl (pa_cons (pv 0) (pa_cons (pe_lst (pa_cons pe_int (pa_cons pe_int (pa_cons (pe_un un_neg pe_int) (pa_cons pe_int (pa_cons (pe_op op_pow pe_int pe_int) (pa_cons (pe_op op_add (pe_op op_pow pe_int pe_int) pe_int) (pa_cons (pe_op op_sub (pe_un un_neg (pe_op op_pow pe_int pe_int)) pe_int) pa_nil)))))))) pa_nil)))))
      pss_nil)
      (pss_cons (ps_if (pt_cmpR op_eq (pv 3) pe_int (nomark _))
      (pss_one (ps_ret (pe_c cOf hr h1 rfl (pa_cons (pv 0) (pa_cons (pe_lst (pa_cons pe_str (pa_cons pe_str (pa_cons pe_str (pa_cons pe_str (pa_cons pe_str (pa_cons pe_str (pa_cons pe_str (pa_cons pe_str (pa_cons pe_str pa_nil)))))))))) pa_nil)))))
      pss_nil)
      (pss_one (ps_ret (pe_c cOf hr h1 rfl (pa_cons (pv 0) (pa_cons (pv 1) pa_nil)))))))), ?_⟩
  intro a l kind H D E h
  refine ⟨_, rfl, rfl, _, rfl, ite2 (fun _ => ?_) (fun _ => ?_)⟩
  · refine ⟨_, rfl, szle (by simp), any_const (E' := E0) (es := [.bool true, .bool false, .none]) h (fun G => .cons (.bl _) (.cons (.bl _) (.cons .non .nil))) ?_ (by simp) (by simp)⟩
    have q : ([.bool true, .bool false, .none] : List PyData).all leafOk = true := by decide +kernel
    exact List.all_eq_true.mp q
  refine ⟨_, rfl, rfl, _, rfl, ite2 (fun _ => ?_) (fun _ => ?_)⟩
  · refine ⟨_, rfl, _, rfl, _, _, rfl, rfl, ⟨by decide, by decide, by decide⟩, _, _, rfl, rfl, ⟨by decide, by decide, by decide⟩, _, _, rfl, rfl, _, _, rfl, rfl, ⟨by decide, by decide, by decide⟩, _, rfl, _, _, rfl, rfl, szle (by simp), ?_⟩
    refine any_const (E' := E0) (es := [.int 0, .int 1, .int (-1), .int 2, .int (10 ^ 30), .int (10 ^ 39 + 1), .int (-(10 ^ 30) - 1)]) h (fun G => .cons (.int _) (.cons (.int _) (.cons (.int _) (.cons (.int _) (.cons (.int _) (.cons (.int _) (.cons (.int _) .nil))))))) ?_ (by simp) (by simp)
    have q : ([.int 0, .int 1, .int (-1), .int 2, .int (10 ^ 30), .int (10 ^ 39 + 1), .int (-(10 ^ 30) - 1)] : List PyData).all leafOk = true := by decide +kernel
    exact List.all_eq_true.mp q
  refine ⟨_, rfl, rfl, _, rfl, ite2 (fun _ => ?_) (fun _ => ?_)⟩
  · refine ⟨_, rfl, szle (by simp), any_const (E' := E0) (es := [.str "", .str " ", .str "root", .str "[", .str "live", .str "Aa", .str "a a", .str "ninefolds", .str "7"]) h (fun G => .cons (.str _) (.cons (.str _) (.cons (.str _) (.cons (.str _) (.cons (.str _) (.cons (.str _) (.cons (.str _) (.cons (.str _) (.cons (.str _) .nil))))))))) ?_ (by simp) (by simp)⟩
    have q : ([.str "", .str " ", .str "root", .str "[", .str "live", .str "Aa", .str "a a", .str "ninefolds", .str "7"] : List PyData).all leafOk = true := by decide +kernel
    exact List.all_eq_true.mp q
  · exact ⟨_, rfl, _, rfl, any_atom (E' := E0) h⟩
theorem ok_any {k dep : Nat} {fd : FuncData} (F : Fun K "_law_any" "_law_any" sAny f fd) (T : Bn mg) (cTake : Cl P w K mg base 1 "_law_take" spTake []) (cOf : Cl P w K mg base 2 "_law_of" (spOf K) []) (h2 : 2 ≤ k) (rec : ∀ m, dep = m + 1 → Cl P w K mg base k "_law_any" (spAny K m) []) :
    FnOk P w K mg base CX0 (k + 1) f fd ["_law_source_here", "_law_atoms", "_law_depth"] (spAny K dep) := by
  refine F.ok scAny (fun vs H Q E h => ?_) (fun cdv A outer s H vs Q E hr h => ?_)
  · obtain ⟨a', l', xs, ds0, G, n, s, e, _⟩ := h
    rw [e]
    rfl
  · obtain ⟨a, l, rfl⟩ : ∃ a l, vs = [.ref a, .ref l, .int dep] := by
      obtain ⟨a', l', xs, ds0, G, n, s, e, _⟩ := h
      exact ⟨a', l', e⟩
    have S : SrcAt H a := by
      obtain ⟨a', l', xs, ds0, G, n, s, e, S, _⟩ := h
      simp only [List.cons.injEq, V.ref.injEq, and_true] at e
      obtain ⟨rfl, rfl, _⟩ := e
      exact S
    obtain ⟨tt, pt, ht⟩ := tl_any (mg := mg) (f := f) (cdv := cdv) (A := A) (outer := outer) (s0 := s) (H0 := H) (E0' := E) (dep := dep) cOf h2 hr
    cases dep with
    | zero =>
      refine ⟨_, pss_cons (ps_set (i := 3) scAny.nd rfl (.inl rfl) (pe_c cTake hr (by omega) rfl (pa_cons (pv 0) (pa_cons pe_int pa_nil)))) (pss_cons (ps_if (PW.pt (pw_and (pt_cmpR op_lt (pv 3) pe_int (nomark _)) (pw_and1 (pt_cmpR op_gt (pv 2) pe_int (nomark _))))) (pss_cons ps_never pss_never) pss_nil) pt), ?_⟩
      refine ⟨_, rfl, a, 9, rfl, by decide, by decide, S, fun r c st z r0 r1 => ?_⟩
      refine ⟨_, rfl, _, _, rfl, rfl, _, rfl, ite2 (fun _ => ?_) (fun _ => ?_)⟩
      · exact ⟨_, rfl, _, _, rfl, rfl, _, rfl, iteF (ht a l r _ _ E (any_adv h c st z))⟩
      · exact ht a l r _ _ E (any_adv h c st z)
    | succ m =>
      obtain ⟨tb, pb, hb⟩ := br_any (mg := mg) (f := f) (cdv := cdv) (A := A) (outer := outer) (s0 := s) (H0 := H) (E0' := E) T cTake (rec m rfl) (by omega) hr
      refine ⟨_, pss_cons (ps_set (i := 3) scAny.nd rfl (.inl rfl) (pe_c cTake hr (by omega) rfl (pa_cons (pv 0) (pa_cons pe_int pa_nil)))) (pss_cons (ps_if (PW.pt (pw_and (pt_cmpR op_lt (pv 3) pe_int (nomark _)) (pw_and1 (pt_cmpR op_gt (pv 2) pe_int (nomark _))))) pb pss_nil) pt), ?_⟩
      refine ⟨_, rfl, a, 9, rfl, by decide, by decide, S, fun r c st z r0 r1 => ?_⟩
      refine ⟨_, rfl, _, _, rfl, rfl, _, rfl, ite2 (fun _ => ?_) (fun _ => ?_)⟩
      · exact ⟨_, rfl, _, _, rfl, rfl, _, rfl, ite2 (fun _ => hb a l r _ _ E (any_adv h c st z)) (fun _ => ht a l r _ _ E (any_adv h c st z))⟩
      · exact ht a l r _ _ E (any_adv h c st z)
end
end K09

set_option Elab.async false
set_option linter.all false
set_option maxRecDepth 100000
set_option maxHeartbeats 4000000
set_option pp.maxSteps 300
namespace K09
open PySem L2 L2.G42
open PyProof.Rows (boot_isinstance boot_int boot_bool boot_list boot_set boot_abs boot_enumerate)
abbrev sBad : Stmt := inClass (top 3) 0
abbrev sInit : Stmt := inClass (top 9) 0
abbrev sHas : Stmt := inClass (top 9) 1
abbrev sLen : Stmt := inClass (top 9) 2
abbrev sTold : Stmt := inClass (top 9) 3
abbrev sAdd : Stmt := inClass (top 9) 4
abbrev sClear : Stmt := inClass (top 9) 5
abbrev sForm : Stmt := inClass (top 9) 10
section
variable {P : Program} {w : World} {K : PySem.W.Frag} {mg : Str → Option Value} {base : Heap} {C B : Addr}
/-! BadValue.__init__ -/
theorem scBad : FnScope ["self", "value"] ["self", "value"] (defScope sBad) := ⟨rfl, rfl, rfl, by decide +kernel, rfl, by decide +kernel, by decide +kernel⟩
theorem ok_bad {f : Addr} {fd : FuncData} (F : Fun K "__init__" "BadValue.__init__" sBad f fd) (O : OexC K B) (no : PySem.W.findIn K (.ref B) "value" = some none) : FnOk P w K mg base CX0 1 f fd ["self", "value"] (spErr B "value") := by
  refine F.ok scBad (fun vs H Q E h => ?_) (fun cdv A outer s H vs Q E hr h => ?_)
  · obtain ⟨a, x, rfl, _⟩ := h
    rfl
  · obtain ⟨a, x, rfl, ha, k⟩ := h
    exact ⟨_, pss_one (ps_ost (pv 0) (pv 1)), _, rfl, _, rfl, a, B, rfl, O, no, .inl ⟨ha, fun d hd ne => k d hd ne⟩⟩
/-! Bag.__init__ -/
abbrev NInit : List Str := ["self", "values", "shared", "value"]
theorem scInit : FnScope NInit ["self", "values", "shared"] (defScope sInit) := ⟨rfl, rfl, rfl, by decide +kernel, rfl, by decide +kernel, by decide +kernel⟩
theorem ok_init {dvs : List V} {kws : List (Str × V)} {f : Addr} {fd : FuncData} (F : FunD K "__init__" "Bag.__init__" (defArgs sInit) (defBody sInit) (defScope sInit) dvs kws f fd) (T : BagC K C) (cVal : Cl P w K mg base 2 "is_value" (spIsVal K) []) (er : Er P w K mg base 1 "BadValue" B "value") :
    FnOk P w K mg base (L2.CX P w) 3 f fd ["self", "values", "shared"] (spInit K C B) := by
  refine F.ok scInit (fun vs H Q E h => ?_) (fun cdv A outer s H vs Q E hr h => ?_)
  · obtain ⟨p, dx, a, xs, ds, sh, rfl, _⟩ := h
    rfl
  · obtain ⟨p, dx, a, xs, ds, sh, rfl, hp, ha, dp, few, bad, k⟩ := h
    refine ⟨_, (pss_cons (ps_for (passes_of rfl) rfl (pi_or (pi_list (pv 1)) (pi_tup (pv 1))) (pg_name (i := 3) scInit.nd rfl (.inl rfl))
        (pss_one (ps_if (pt_not (pt_val (pe_c cVal hr (by decide) rfl (pa_cons (pv 3) pa_nil)))) (pss_one (ps_raise1 er rfl (takes_of rfl rfl rfl rfl) hr (by decide) rfl (pv 3))) pss_nil)))
      (pss_cons (ps_fld (pv 0) (pe_dc (own := [("value", 3)]) (g := gName 3) rfl scInit.nd (pi_or (pi_list (pv 1)) (pi_tup (pv 1))) (blkOk_by (own := [("value", 3)]) (N := NInit) (sc := defScope sInit) (by decide +kernel))
          (fun _ _ _ _ _ => pg_name (i := 3) scInit.nd rfl (.inl rfl)) (fun _ _ _ _ _ => pts_nil) (fun _ _ _ _ _ => pv 3) (fun _ _ _ _ _ => pe_bl)) rfl)
      (pss_one (ps_fld (pv 0) (pv 2) rfl)))), ?_⟩
    rcases ha with ha | ha
    · -- over a list
      refine .inl ⟨_, rfl, a, rfl, ⟨_, ha⟩, for_list (xs := xs) (fun i σ H' => H' = H ∧ (∃ x, σ = [some (.ref p), some (.ref a), some (.bl sh), x]) ∧ ∀ (j : Nat) (e : PyData), j < i → ds[j]? = some e → isVal e = true) ⟨rfl, ⟨none, rfl⟩, fun j _ h _ => absurd h (Nat.not_lt_zero j)⟩ (fun _ _ _ _ e => e.1 ▸ ha) ?_ ?_⟩
      · rintro i x σ H' hx ⟨rfl, ⟨y, rfl⟩, hv⟩
        obtain ⟨d, hdi, hd⟩ := DpAll.at dp hx
        refine ⟨_, rfl, x, d, rfl, hd, _, rfl, ?_⟩
        cases e : isVal d with
        | true =>
          refine iteF ⟨rfl, ⟨_, rfl⟩, fun j e' hj he => ?_⟩
          rcases Nat.lt_or_ge j i with h | h
          · exact hv j e' h he
          · obtain rfl : j = i := by omega
            obtain rfl := Option.some.inj (hdi.symm.trans he)
            exact e
        | false => exact iteT ⟨_, rfl, err_one fun q hq => bad i x d hx hdi e hv q hq⟩
      · rintro σ H' ⟨rfl, ⟨y, rfl⟩, hv⟩
        obtain ⟨ns, rfl, rfl, fit⟩ := ints_of dp fun d hd => by
          obtain ⟨i, hi, e⟩ := List.mem_iff_getElem.mp hd
          exact hv i d (by rw [DpAll.len dp]; exact hi) (by rw [← e]; exact List.getElem?_eq_getElem hi)
        refine .inl ⟨_, rfl, a, rfl, ⟨_, ha⟩, fun d hd => dc_it (walk_list (xs := ns.map V.int)) (fun i H1 => H1 d = some (.dK (kv (insAll [] (ns.take i)))) ∧ But (fun _ => False) H' H1) ⟨upd_same, But.new hd⟩ (fun i H1 _ q => SqL.part ha (fun b o e => q.2 b o e id)) (fun i x H1 H2 hi q hy => ?_) (fun H1 q => ?_)⟩
        · obtain ⟨rfl, hx⟩ := hy
          rw [List.getElem?_map] at hx
          obtain ⟨n, hn, rfl⟩ := Option.map_eq_some_iff.mp hx
          refine ⟨rfl, _, rfl, kv (insAll [] (ns.take i)), Sum.inl n, rfl, q.1, szl ?_, ?_, But.fresh q.2 hd⟩
          · have := insAll_len (ns.take i) []
            rw [List.length_map] at few
            rw [kv_len]
            simp only [List.length_take, List.length_nil] at this
            omega
          · rw [upd_same, kv_put, insAll_take [] ns hn]
        · have e : ns.take (ns.map V.int).length = ns := by rw [List.length_map]; exact List.take_length
          rw [e] at q
          have npd : p ≠ d := ne_of_none hp hd
          refine ⟨_, rfl, p, C, dx, [], rfl, q.2 _ _ hp id, T.cl, T.nI, (by show 0 < 1000; decide), _, rfl, _, rfl, p, C, dx, _, rfl, upd_same, T.cl, T.nS, (by show 1 < 1000; decide), ?_⟩
          refine k ns rfl fit rfl d _ hd ⟨⟨dx, Eq.trans upd_same (by rw [bf1, bf2])⟩, by rw [upd_ne npd.symm, upd_ne npd.symm]; exact q.1⟩ fun b o hb nb => ?_
          rw [upd_ne nb, upd_ne nb]
          exact q.2 b o hb id
    · -- over a tup
      refine .inr ⟨_, rfl, a, rfl, ⟨_, ha⟩, for_tup (xs := xs) (fun i σ H' => H' = H ∧ (∃ x, σ = [some (.ref p), some (.ref a), some (.bl sh), x]) ∧ ∀ (j : Nat) (e : PyData), j < i → ds[j]? = some e → isVal e = true) ⟨rfl, ⟨none, rfl⟩, fun j _ h _ => absurd h (Nat.not_lt_zero j)⟩ (fun _ _ _ _ e => e.1 ▸ ha) ?_ ?_⟩
      · rintro i x σ H' hx ⟨rfl, ⟨y, rfl⟩, hv⟩
        obtain ⟨d, hdi, hd⟩ := DpAll.at dp hx
        refine ⟨_, rfl, x, d, rfl, hd, _, rfl, ?_⟩
        cases e : isVal d with
        | true =>
          refine iteF ⟨rfl, ⟨_, rfl⟩, fun j e' hj he => ?_⟩
          rcases Nat.lt_or_ge j i with h | h
          · exact hv j e' h he
          · obtain rfl : j = i := by omega
            obtain rfl := Option.some.inj (hdi.symm.trans he)
            exact e
        | false => exact iteT ⟨_, rfl, err_one fun q hq => bad i x d hx hdi e hv q hq⟩
      · rintro σ H' ⟨rfl, ⟨y, rfl⟩, hv⟩
        obtain ⟨ns, rfl, rfl, fit⟩ := ints_of dp fun d hd => by
          obtain ⟨i, hi, e⟩ := List.mem_iff_getElem.mp hd
          exact hv i d (by rw [DpAll.len dp]; exact hi) (by rw [← e]; exact List.getElem?_eq_getElem hi)
        refine .inr ⟨_, rfl, a, rfl, ⟨_, ha⟩, fun d hd => dc_it (walk_tup (xs := ns.map V.int)) (fun i H1 => H1 d = some (.dK (kv (insAll [] (ns.take i)))) ∧ But (fun _ => False) H' H1) ⟨upd_same, But.new hd⟩ (fun i H1 _ q => SqT.part ha (fun b o e => q.2 b o e id)) (fun i x H1 H2 hi q hy => ?_) (fun H1 q => ?_)⟩
        · obtain ⟨rfl, hx⟩ := hy
          rw [List.getElem?_map] at hx
          obtain ⟨n, hn, rfl⟩ := Option.map_eq_some_iff.mp hx
          refine ⟨rfl, _, rfl, kv (insAll [] (ns.take i)), Sum.inl n, rfl, q.1, szl ?_, ?_, But.fresh q.2 hd⟩
          · have := insAll_len (ns.take i) []
            rw [List.length_map] at few
            rw [kv_len]
            simp only [List.length_take, List.length_nil] at this
            omega
          · rw [upd_same, kv_put, insAll_take [] ns hn]
        · have e : ns.take (ns.map V.int).length = ns := by rw [List.length_map]; exact List.take_length
          rw [e] at q
          have npd : p ≠ d := ne_of_none hp hd
          refine ⟨_, rfl, p, C, dx, [], rfl, q.2 _ _ hp id, T.cl, T.nI, (by show 0 < 1000; decide), _, rfl, _, rfl, p, C, dx, _, rfl, upd_same, T.cl, T.nS, (by show 1 < 1000; decide), ?_⟩
          refine k ns rfl fit rfl d _ hd ⟨⟨dx, Eq.trans upd_same (by rw [bf1, bf2])⟩, by rw [upd_ne npd.symm, upd_ne npd.symm]; exact q.1⟩ fun b o hb nb => ?_
          rw [upd_ne nb, upd_ne nb]
          exact q.2 b o hb id
/-! v in bag -/
theorem scHas : FnScope ["self", "value"] ["self", "value"] (defScope sHas) := ⟨rfl, rfl, rfl, by decide +kernel, rfl, by decide +kernel, by decide +kernel⟩
theorem ok_has {f : Addr} {fd : FuncData} (F : Fun K "__contains__" "Bag.__contains__" sHas f fd) (T : BagC K C) (cVal : Cl P w K mg base 2 "is_value" (spIsVal K) []) : FnOk P w K mg base CX0 3 f fd ["self", "value"] (spHas K C) := by
  refine F.ok scHas (fun vs H Q E h => ?_) (fun cdv A outer s H vs Q E hr h => ?_)
  · obtain ⟨p, d, sh, ks, x, e, rfl, _⟩ := h
    rfl
  · obtain ⟨p, d, sh, ks, x, e, rfl, ⟨⟨dx, ob⟩, dc⟩, he, k⟩ := h
    refine ⟨_, (pss_one (ps_ret (pe_and (pe_c cVal hr (by decide) rfl (pa_cons (pv 1) pa_nil)) (pe_one (pe_cmp (pc_din (hu_of hr) (pv 1) (pe_fld (pv 0) rfl)) rfl))))), ?_⟩
    refine ⟨_, rfl, x, e, rfl, he, _, rfl, ite2 (fun h => ?_) (fun h => ?_)⟩
    · cases he with
      | int n =>
        have hf : Fits n := of_decide_eq_true h
        refine ⟨_, rfl, _, rfl, p, C, dx, _, _, rfl, ob, T.cl, T.nI, bl_in _ _, d, _, rfl, DGet.k (k := Sum.inl n) dc, ?_⟩
        rw [kv_val]
        have e1 : hasV ks (.int n) = decide (n ∈ ks) := by
          show (decide (Fits n) && _) = _
          rw [decide_eq_true hf]
          rfl
        rw [e1] at k
        by_cases q : n ∈ ks
        · rw [if_pos q]
          rw [decide_eq_true q] at k
          exact k
        · rw [if_neg q]
          rw [decide_eq_false q] at k
          exact k
      | _ => cases h
    · have e1 : hasV ks e = false := by
        cases e with
        | int n =>
          show (decide (Fits n) && _) = false
          rw [show decide (Fits n) = false from by simpa [isVal] using h]
          rfl
        | _ => rfl
      rw [e1] at k
      exact k
/-! len(bag) -/
theorem scLen : FnScope ["self"] ["self"] (defScope sLen) := ⟨rfl, rfl, rfl, by decide +kernel, rfl, by decide +kernel, by decide +kernel⟩
theorem ok_len {f : Addr} {fd : FuncData} (F : Fun K "__len__" "Bag.__len__" sLen f fd) (N0 : Bn mg) (T : BagC K C) : FnOk P w K mg base CX0 1 f fd ["self"] (spLen C) := by
  refine F.ok scLen (fun vs H Q E h => ?_) (fun cdv A outer s H vs Q E hr h => ?_)
  · obtain ⟨p, d, sh, ks, rfl, _⟩ := h
    rfl
  · obtain ⟨p, d, sh, ks, rfl, ⟨⟨dx, ob⟩, dc⟩, k⟩ := h
    refine ⟨_, (pss_one (ps_ret (pe_callB call_lenD (by rfl) N0.len PySem.boot_len (pa_cons (pe_fld (pv 0) rfl) pa_nil)))), ?_⟩
    refine ⟨_, rfl, p, C, dx, _, _, rfl, ob, T.cl, T.nI, bl_in _ _, d, _, rfl, dc, ?_⟩
    rw [kv_len]
    exact k
/-! told -/
theorem scTold : FnScope ["self"] ["self"] (defScope sTold) := ⟨rfl, rfl, rfl, by decide +kernel, rfl, by decide +kernel, by decide +kernel⟩
theorem ok_told {f : Addr} {fd : FuncData} (F : Fun K "told" "Bag.told" sTold f fd) (N0 : Bn mg) (T : BagC K C) : FnOk P w K mg base CX0 1 f fd ["self"] (spTold C) := by
  refine F.ok scTold (fun vs H Q E h => ?_) (fun cdv A outer s H vs Q E hr h => ?_)
  · obtain ⟨p, d, sh, ks, xs, rfl, _⟩ := h
    rfl
  · obtain ⟨p, d, sh, ks, xs, rfl, ⟨⟨dx, ob⟩, dc⟩, nd, hx, hm, k⟩ := h
    refine ⟨_, pss_one (ps_ret (pe_callB cr_sortedI (by rfl) N0.sorted boot_sorted (pa_cons (pe_callTy (call_list_dK rfl) (by rfl) N0.list boot_list (pa_cons (pe_fld (pv 0) rfl) pa_nil)) pa_nil))), ?_⟩
    refine ⟨_, rfl, p, C, dx, _, _, rfl, ob, T.cl, T.nI, bl_in _ _, d, kv ks, rfl, dc, fun l hl => ?_⟩
    rw [kv_keys]
    refine ⟨l, ks, rfl, SqL.of upd_same, fun ns' q hp hs hq => ?_⟩
    have hq0 : H q = none := But.free (But.new hl) hq
    rw [sorted_is hp hs nd hx hm]
    exact k q _ hq0 upd_same (But.fresh (But.new hl) hq0)
/-! add -/
theorem scAdd : FnScope ["self", "value"] ["self", "value"] (defScope sAdd) := ⟨rfl, rfl, rfl, by decide +kernel, rfl, by decide +kernel, by decide +kernel⟩
theorem ok_add {f : Addr} {fd : FuncData} (F : Fun K "add" "Bag.add" sAdd f fd) (T : BagC K C) (cVal : Cl P w K mg base 2 "is_value" (spIsVal K) []) (er : Er P w K mg base 1 "BadValue" B "value") : FnOk P w K mg base (L2.CX P w) 3 f fd ["self", "value"] (spAdd K C B) := by
  refine F.okX scAdd (fun vs H Q E h => ?_) (fun cdv A outer s H vs Q E hr h => ?_)
  · obtain ⟨p, d, sh, ks, x, e, rfl, _⟩ := h
    rfl
  · obtain ⟨p, d, sh, ks, x, e, rfl, ⟨⟨dx, ob⟩, dc⟩, he, few, bad, k⟩ := h
    refine ⟨_, pss_cons (ps_if (pt_not (pt_val (pe_c cVal hr (by decide) rfl (pa_cons (pv 1) pa_nil)))) (pss_one (ps_raise1 er rfl (takes_of rfl rfl rfl rfl) hr (by decide) rfl (pv 1))) pss_nil)
      (pss_one (ps_dput (hu_of hr) (pe_fld (pv 0) rfl) (pv 1) pe_bl rfl)), ?_⟩
    refine ⟨_, rfl, x, e, rfl, he, _, rfl, ?_⟩
    cases hv : isVal e with
    | false => exact iteT ⟨_, rfl, err_one fun q hq => bad hv q hq⟩
    | true =>
      cases he with
      | int n =>
        refine iteF ⟨_, rfl, p, C, dx, _, _, rfl, ob, T.cl, T.nI, bl_in _ _, _, rfl, d, _, rfl, DPut.k (k := Sum.inl n) dc (by rw [kv_len]; exact szl (by omega)), ?_⟩
        rw [kv_put]
        exact k n rfl (of_decide_eq_true hv)
      | _ => cases hv
/-! clear -/
theorem scClear : FnScope ["self"] ["self"] (defScope sClear) := ⟨rfl, rfl, rfl, by decide +kernel, rfl, by decide +kernel, by decide +kernel⟩
theorem ok_clear {f : Addr} {fd : FuncData} (F : Fun K "clear" "Bag.clear" sClear f fd) (T : BagC K C) : FnOk P w K mg base CX0 1 f fd ["self"] (spClear C) := by
  refine F.ok scClear (fun vs H Q E h => ?_) (fun cdv A outer s H vs Q E hr h => ?_)
  · obtain ⟨p, d, sh, ks, rfl, _⟩ := h
    rfl
  · obtain ⟨p, d, sh, ks, rfl, ⟨⟨dx, ob⟩, dc⟩, k⟩ := h
    refine ⟨_, pss_one (ps_fld (pv 0) pe_dnewK rfl), ?_⟩
    intro d' hd'
    have ne : p ≠ d' := ne_of_none ob hd'
    refine ⟨_, rfl, p, C, dx, _, rfl, (by rw [upd_ne ne]; exact ob), T.cl, T.nI, (by show 2 < 1000; decide), ?_⟩
    refine k d' _ hd' ⟨⟨dx, Eq.trans upd_same (by rw [bfI])⟩, by rw [upd_ne ne.symm, upd_same]; rfl⟩ fun b o hb nb => ?_
    rw [upd_ne nb, upd_ne (ne_of_none hb hd')]
    exact hb
/-! form -/
theorem scForm : FnScope ["self"] ["self"] (defScope sForm) := ⟨rfl, rfl, rfl, by decide +kernel, rfl, by decide +kernel, by decide +kernel⟩
theorem ok_form {f : Addr} {fd : FuncData} (F : Fun K "form" "Bag.form" sForm f fd) : FnOk P w K mg base CX0 1 f fd ["self"] spForm := by
  refine F.ok scForm (fun vs H Q E h => ?_) (fun cdv A outer s H vs Q E hr h => ?_)
  · obtain ⟨p, rfl, _⟩ := h
    rfl
  · obtain ⟨p, rfl, k⟩ := h
    exact ⟨_, pss_one (ps_ret pe_str), k⟩
end
end K09

set_option Elab.async false
set_option linter.all false
set_option maxRecDepth 100000
set_option maxHeartbeats 4000000
set_option pp.maxSteps 300
namespace K09
open PySem L2 L2.G42
open PyProof.Rows (boot_isinstance boot_int boot_bool boot_list boot_set boot_abs boot_enumerate)
abbrev sRef : Stmt := top 18
abbrev sUnm : Stmt := top 19
abbrev sRight : Stmt := top 20
/-- what the written part says of BadValue (at B) and NestedError (at NE) -/
structure BadT (K : PySem.W.Frag) (mg : Str → Option Value) (B NE : Addr) : Prop where
  gl : mg "BadValue" = some (.ref B)
  xf : XfC K B
  xd : ExcD K B
  no : PySem.W.findIn K (.ref B) "value" = some none
  te : PySem.W.exmOne K (.ref B) (.ref B) = some true
  ng : mg "NestedError" = some (.ref NE)
  kn : PySem.W.kitOne K (.ref B) (.ref NE) = some true
section
variable {P : Program} {w : World} {K : PySem.W.Frag} {mg : Str → Option Value} {base : Heap} {C B NE : Addr}
theorem bl_m {m : Str} (u v : V) (h1 : (m == ("inside" : Str)) = false) (h2 : (m == ("shared" : Str)) = false) : List.lookup m (bfs u v) = none := bl_no u v h1 h2
def spRef (K : PySem.W.Frag) (C : Addr) : Sp := fun vs H Q _ => ∃ (p d : Addr) (sh : Bool) (ks : List Int) (x : V) (e : PyData) (n s : Nat), vs = [.ref p, x] ∧ BagAt C H p d sh ks ∧ Dp K H x e ∧ ks.length ≤ 10000 ∧ isVal e = false ∧ Gd n s e ∧ n ≤ 60 ∧ s ≤ sizeLine ∧
  ∀ (t : Addr) (H' : Hp), H t = none → H' t = some (.tup [.str e.shown, .bl true]) → But (fun _ => False) H H' → Q (.ref t) H'
theorem scRef : FnScope ["_law_bag", "_law_thing", "e"] ["_law_bag", "_law_thing"] (defScope sRef) := ⟨rfl, rfl, rfl, by decide +kernel, rfl, by decide +kernel, by decide +kernel⟩
theorem ok_ref {f : Addr} {fd : FuncData} (F : Fun K "_law_refused" "_law_refused" sRef f fd) (T : Bn mg) (X1 : BadT K mg B NE) (mAdd : MtX P w K mg base 3 C "add" (spAdd K C B) []) : FnG P w K mg base CX0 4 f fd ["_law_bag", "_law_thing"] (spRef K C) := by
  refine Fun.okG F scRef (fun vs H Q E h => ?_) (fun cdv A outer s H vs Q E hr gu h => ?_)
  · obtain ⟨p, d, sh, ks, x, e, n, s, rfl, _⟩ := h
    rfl
  · obtain ⟨p, d, sh, ks, x, e, n, s, rfl, ba, he, few, hv, gd, hn, hs, k⟩ := h
    have hu := hr.units
    refine ⟨_, (pss_cons (ps_try_as (i := 2) rfl rfl scRef.nd rfl rfl ⟨rfl, by decide, .inl X1.gl⟩ takes0
        (fun W pn xe tk _ => pss_one (ps_expr (pe_mtS mAdd tk hr (by decide) (pv 0) (pa_cons (pv 1) pa_nil))))
        (fun a oe cls d pn hz hf => pss_one (ps_ret (pe_tup (pa_cons (pe_callB (call_reprK (K := K) rfl gu hu) (by rfl) T.repr boot_repr (pa_cons (pe_xf X1.xf X1.no hz hf (pv 2)) pa_nil))
          (pa_cons (pe_callB (call_isD X1.xd hz hf) (by rfl) T.isi boot_isinstance (pa_cons (pv 2) (pa_cons (pe_glob (v := .ref NE) rfl X1.ng rfl) pa_nil))) pa_nil))))))
      (pss_one (ps_ret pe_non))), ?_⟩
    obtain ⟨dx, ob⟩ := ba.ob
    refine ⟨_, rfl, p, dx, _, rfl, ob, bl_m _ _ (by decide +kernel) (by decide +kernel), _, rfl, p, d, sh, ks, x, e, rfl, ba, he, few, fun _ q hq => ?_, fun m hm hf => ?_⟩
    · have hp : Part H (upd H q (.xd [("value", x)])) := Part.refl.upd hq
      refine ⟨true, X1.te, fun _ a ha => ?_, fun q => nomatch q⟩
      refine ⟨_, rfl, rfl, rfl, q, _, x, rfl, upd_same, by simp [List.lookup], x, e, rfl, Dp.part hp _ _ he, gd.sh, gd.noDict, Nat.le_trans gd.ln hs, Nat.le_trans gd.dp hn, _, rfl, .ref NE, .ref NE, true, q, _, rfl, rfl, rfl, upd_same, fun u r => r, X1.kn, szle (by simp), fun t ht => ?_⟩
      exact k t _ (But.free (But.new hq) ht) upd_same ((But.new hq).trans (But.new ht))
    · subst hm
      cases he
      rw [show isVal (.int m) = true from decide_eq_true hf] at hv
      cases hv
def shownBad (ds : List PyData) : V := match ds.find? (fun d => !isVal d) with
  | some e => .str e.shown
  | none => .non
theorem find_bad {ds : List PyData} {i : Nat} {d : PyData} (h : ds[i]? = some d) (hv : isVal d = false) (hb : ∀ (j : Nat) (e : PyData), j < i → ds[j]? = some e → isVal e = true) : ds.find? (fun d => !isVal d) = some d := by
  rw [List.find?_eq_some_iff_getElem]
  obtain ⟨hi, e⟩ := List.getElem?_eq_some_iff.mp h
  refine ⟨by rw [hv]; rfl, i, hi, e, fun j hj => ?_⟩
  rw [hb j _ hj (List.getElem?_eq_getElem _)]
  rfl
theorem find_none {ns : List Int} (h : ∀ n ∈ ns, Fits n) : (ns.map PyData.int).find? (fun d => !isVal d) = none := by
  rw [List.find?_eq_none]
  intro d hd
  obtain ⟨n, hn, rfl⟩ := List.mem_map.mp hd
  rw [show isVal (.int n) = true from decide_eq_true (h n hn)]
  decide
def spUnm (K : PySem.W.Frag) : Sp := fun vs H Q _ => ∃ (l : Addr) (xs : List V) (ds : List PyData) (n s : Nat), vs = [.ref l] ∧ SqL K H l xs ∧ DpAll K H xs ds ∧ xs.length ≤ 1000 ∧ (∀ d ∈ ds, isVal d = false → Gd n s d) ∧ n ≤ 60 ∧ s ≤ sizeLine ∧
  ∀ H' : Hp, But (fun _ => False) H H' → Q (shownBad ds) H'
theorem scUnm : FnScope ["_law_values_here", "e"] ["_law_values_here"] (defScope sUnm) := ⟨rfl, rfl, rfl, by decide +kernel, rfl, by decide +kernel, by decide +kernel⟩
theorem ok_unm {f : Addr} {fd : FuncData} (F : Fun K "_law_unmade" "_law_unmade" sUnm f fd) (T : Bn mg) (X1 : BadT K mg B NE) (kBag : NwX P w K mg base 3 "Bag" C (spInit K C B) [.bl false]) : FnG P w K mg base CX0 5 f fd ["_law_values_here"] (spUnm K) := by
  refine Fun.okG F scUnm (fun vs H Q E h => ?_) (fun cdv A outer s H vs Q E hr gu h => ?_)
  · obtain ⟨l, xs, ds, n, s, rfl, _⟩ := h
    rfl
  · obtain ⟨l, xs, ds, n, s, rfl, hl, dp, few, gd, hn, hs, k⟩ := h
    have hu := hr.units
    refine ⟨_, (pss_cons (ps_try_as (i := 1) rfl rfl scUnm.nd rfl rfl ⟨rfl, by decide, .inl X1.gl⟩ takes0
        (fun W pn xe tk _ => pss_one (ps_expr (pe_mkS kBag tk hr (by decide) rfl (pa_cons (pv 0) pa_nil))))
        (fun a oe cls d pn hz hf => pss_one (ps_ret (pe_callB (call_reprK (K := K) rfl gu hu) (by rfl) T.repr boot_repr (pa_cons (pe_xf X1.xf X1.no hz hf (pv 1)) pa_nil)))))
      (pss_one (ps_ret pe_non))), ?_⟩
    refine ⟨_, rfl, fun x dx hx hdx ne => ?_⟩
    have g : But (fun _ => False) H (upd (upd H dx (.own x)) x (.ins C dx [])) := But.fresh (But.new hdx) hx
    have pt : Part H (upd (upd H dx (.own x)) x (.ins C dx [])) := fun b o e => g b o e id
    refine ⟨x, dx, l, xs, ds, false, rfl, upd_same, .inl (SqL.part hl pt), DpAll.part pt _ _ dp, few, fun i y e hy he hv hb q hq => ?_, fun ns e1 hf e2 d H' hd BA bt => ⟨rfl, ?_⟩⟩
    · have hp : Part H _ := pt.trans (Part.refl.upd (o := .xd [("value", y)]) hq)
      refine ⟨true, X1.te, fun _ a ha => ?_, fun q => nomatch q⟩
      obtain ⟨e', he', hy'⟩ := DpAll.at dp hy
      obtain rfl := Option.some.inj (he.symm.trans he')
      have ge := gd e (List.mem_of_getElem? he) hv
      refine ⟨_, rfl, rfl, rfl, q, _, y, rfl, upd_same, by simp [List.lookup], y, e, rfl, Dp.part hp _ _ hy', ge.sh, ge.noDict, Nat.le_trans ge.ln hs, Nat.le_trans ge.dp hn, ?_⟩
      have e3 : shownBad ds = .str e.shown := by
        unfold shownBad
        rw [find_bad he hv hb]
      rw [← e3]
      exact k _ fun b o h _ => hp b o h
    · have e3 : shownBad ds = .non := by
        unfold shownBad
        rw [e2, find_none hf]
      rw [e3] at k
      exact k H' fun b o hb _ => bt b o (g b o hb id) (ne_of_none hb hx)
end
end K09

set_option Elab.async false
set_option linter.all false
set_option maxRecDepth 100000
set_option maxHeartbeats 4000000
set_option pp.maxSteps 300
namespace K09
open PySem L2 L2.G42
open PyProof.Rows (boot_isinstance boot_int boot_bool boot_list boot_set boot_abs boot_enumerate)
section
variable {P : Program} {w : World} {K : PySem.W.Frag} {mg : Str → Option Value} {base : Heap} {C B NE : Addr}
/-- a bag and what it is due -/
structure Due (C : Addr) (H : Hp) (p u : Addr) (sh : Bool) (xs : List Int) : Prop where
  bag : ∃ d ks, BagAt C H p d sh ks ∧ ks.Nodup ∧ ks.length = xs.length ∧ (∀ x, x ∈ ks ↔ x ∈ xs) ∧ d ≠ u
  due : H u = some (.lst (xs.map V.int))
  up : xs.Pairwise (· < ·)
  fit : ∀ x ∈ xs, Fits x
  few : xs.length ≤ 100
theorem Due.grow {H H' : Hp} {p u : Addr} {sh : Bool} {xs : List Int} (h : Due C H p u sh xs) (g : But (fun _ => False) H H') : Due C H' p u sh xs := by
  obtain ⟨⟨d, ks, b, r⟩, h2, h3, h4, h5⟩ := h
  exact ⟨⟨d, ks, b.grow g, r⟩, g _ _ h2 id, h3, h4, h5⟩
theorem has_due {ks xs : List Int} (hm : ∀ x, x ∈ ks ↔ x ∈ xs) (e : PyData) : hasV ks e = hasV xs e := by
  cases e with
  | int n =>
    show (decide (Fits n) && decide (n ∈ ks)) = (decide (Fits n) && decide (n ∈ xs))
    rw [show decide (n ∈ ks) = decide (n ∈ xs) from by
      by_cases h : n ∈ xs
      · rw [decide_eq_true h, decide_eq_true ((hm n).2 h)]
      · rw [decide_eq_false h, decide_eq_false (fun q => h ((hm n).1 q))]]
  | _ => rfl
def spRight (K : PySem.W.Frag) (C : Addr) : Sp := fun vs H Q _ => ∃ (p u t : Addr) (sh : Bool) (xs : List Int) (ys : List V) (es : List PyData), vs = [.ref p, .ref u, .ref t] ∧ Due C H p u sh xs ∧ H t = some (.lst ys) ∧ DpAll K H ys es ∧ ys.length ≤ 100 ∧
  ∀ H' : Hp, But (fun _ => False) H H' → Q (.bl true) H'
abbrev NRight : List Str := ["_law_bag", "_law_due", "_law_things", "_law_told", "_law_x", "_law_thing"]
theorem scRight : FnScope NRight ["_law_bag", "_law_due", "_law_things"] (defScope sRight) := ⟨rfl, rfl, rfl, by decide +kernel, rfl, by decide +kernel, by decide +kernel⟩
theorem ok_right {f : Addr} {fd : FuncData} (F : Fun K "_law_right" "_law_right" sRight f fd) (T : Bn mg) (mTold : Mt P w K mg base 1 C "told" (spTold C) []) (oLen : Own1 P w K mg base 1 C "__len__" (spLen C)) (oHas : Own1 P w K mg base 3 C "__contains__" (spHas K C))
    (cIsV : Cl P w K mg base 1 "_law_is_value" (spIsVal K) []) : FnOk P w K mg base CX0 4 f fd ["_law_bag", "_law_due", "_law_things"] (spRight K C) := by
  refine F.ok scRight (fun vs H Q E h => ?_) (fun cdv A outer s H vs Q E hr h => ?_)
  · obtain ⟨p, u, t, sh, xs, ys, es, rfl, _⟩ := h
    rfl
  · obtain ⟨p, u, t, sh, xs, ys, es, rfl, D, ht, dp, few, k⟩ := h
    refine ⟨_, (pss_cons (ps_set (i := 3) scRight.nd rfl (.inl rfl) (pe_mt0 mTold hr (by decide) (pv 0)))
      (pss_cons (ps_if (PW.pt (pw_or (pt_not (pt_val (pe_callB call_isi (by rfl) T.isi boot_isinstance (pa_cons (pv 3) (pa_cons (pe_bltn (v := .ty "list") (by rfl) T.list boot_list rfl) pa_nil))))) (pw_or (pt_cmpR (op_neD hr.units) (pv 3) (pv 1) (nomark _)) (pw_or (pt_cmpR op_ne (pe_callB (cr_lenO oLen hr (by decide)) (by rfl) T.len PySem.boot_len (pa_cons (pv 0) pa_nil)) (pe_callB call_len_seq (by rfl) T.len PySem.boot_len (pa_cons (pv 1) pa_nil)) (nomark _)) (pw_or1 (pt_val (pe_callB (cr_any rfl) (by rfl) T.any boot_any (pa_cons (pe_lc (own := [("_law_x", 4)]) (g := gName 4) (tt := tYes) (te := tCB (rIsi K) (tCons (tVar 4) (tCons (tC (.ty "bool")) tNil))) rfl scRight.nd (pi_list (pv 3)) (blkOk_by (own := [("_law_x", 4)]) (N := NRight) (sc := defScope sRight) (by decide +kernel))
    (fun _ _ _ _ _ => (pg_name (i := 4) scRight.nd rfl (.inl rfl))) (fun _ _ _ _ _ => pts_nil) (fun _ _ _ _ _ => (pe_callB call_isi (by rfl) T.isi boot_isinstance (pa_cons (pv 4) (pa_cons (pe_bltn (v := .ty "bool") (by rfl) T.bool boot_bool rfl) pa_nil))))) pa_nil))))))))
      (pss_one (ps_ret pe_bl))
      pss_nil)
      (pss_cons (ps_expr (pe_bm PySem.F.plainAttrs_list PySem.F.slot_list_append PySem.F.type_list_append mt_append (pv 3) (pa_cons pe_int pa_nil)))
      (pss_cons (ps_for PassesOwn.never rfl (pi_list (pe_op op_cat (pv 2) (pv 1))) (pg_name (i := 5) scRight.nd rfl (.inl rfl))
      (pss_one (ps_if (pt_cmpR op_ne (pe_cmpR (op_inO oHas hr (by decide)) (pv 5) (pv 0) rfl) (pe_and (pe_c cIsV hr (by decide) rfl (pa_cons (pv 5) pa_nil)) (pe_one (pe_cmpR op_in_seq (pv 5) (pv 1) rfl))) (nomark _))
        (pss_one (ps_ret pe_bl))
        pss_nil)))
      (pss_one (ps_ret (pe_cmpR (op_eqD hr.units) (pe_mt0 mTold hr (by decide) (pv 0)) (pv 1) (nomark _)))))))), ?_⟩
    obtain ⟨d, ks, ba, nd, len, hm, ndu⟩ := D.bag
    obtain ⟨dx, ob⟩ := ba.ob
    -- told
    refine ⟨_, rfl, p, dx, _, rfl, ob, bl_m _ _ (by decide +kernel) (by decide +kernel), p, d, sh, ks, xs, rfl, ba, nd, D.up, hm, fun q H1 hq hq1 g1 => ?_⟩
    have D1 := D.grow g1
    refine ⟨_, rfl, .ref q, .ty "list", _, _, _, rfl, .ty _, .base (.lst hq1), kit_ty (a := "list") (r := true) (by decide +kernel), _, rfl, iteF ?_⟩
    refine ⟨_, rfl, _, rfl, ne_ints (SqL.of hq1) (SqL.of D1.due) ⟨_, rfl, iteF ?_⟩⟩
    refine ⟨_, rfl, p, dx, _, rfl, g1 _ _ ob id, p, d, sh, ks, rfl, ba.grow g1, ks.length, rfl, by rw [len]; have := D.few; omega, _, rfl, u, _, rfl, .inl (SqL.of D1.due), rfl, _, rfl, ?_⟩
    have le : decide (V.int (ks.length : Int) = V.int ((xs.map V.int).length : Int)) = true := decide_eq_true (by rw [List.length_map, len])
    rw [le]
    refine iteF ?_
    -- any([isinstance(x, bool) ..])
    refine ⟨_, rfl, q, rfl, ⟨_, SqL.of hq1⟩, fun L hL => lc_list (xs := xs.map V.int) (fun i H2 => H2 L = some (.lst ((List.replicate i false).map V.bl)) ∧ But (fun _ => False) H1 H2) ⟨upd_same, But.new hL⟩ (fun i H2 _ h => SqL.of (h.2 _ _ hq1 id)) (fun i v H2 hi h => ?_) (fun H2 h => ?_)⟩
    · rw [List.getElem?_map] at hi
      obtain ⟨n, hn, rfl⟩ := Option.map_eq_some_iff.mp hi
      have hil : i < xs.length := (List.getElem?_eq_some_iff.mp hn).1
      have hfew := D.few
      refine ⟨rfl, _, rfl, .int n, .ty "bool", _, _, false, rfl, .ty _, .base (.int n), kit_ty (by decide +kernel), _, h.1, ?_, ?_, h.2.fresh hL⟩
      · rw [List.length_map, List.length_replicate]
        exact szl (by omega)
      · rw [upd_same, List.replicate_succ', List.map_append]
        rfl
    obtain ⟨h2, g2⟩ := h
    refine ⟨L, _, rfl, SqL.of h2, _, rfl, ?_⟩
    rw [show (List.replicate (xs.map V.int).length false).any id = false by simp]
    refine iteF ?_
    -- told.append(7)
    have g12 := g1.trans g2
    have hfew := D.few
    have hq2 := g2 _ _ hq1 id
    refine ⟨_, rfl, .inl ⟨rfl, _, SqL.of hq2⟩, q, _, _, rfl, rfl, hq2, by rw [List.length_map]; exact szl (by omega), ?_⟩
    have g3 : But (fun _ => False) H (upd H2 q (.lst (xs.map V.int ++ [.int 7]))) := g12.fresh hq
    generalize upd H2 q (.lst (xs.map V.int ++ [.int 7])) = H3 at g3 ⊢
    -- for thing in things + due
    refine ⟨_, rfl, _, rfl, t, u, _, _, rfl, rfl, g3 _ _ ht id, (D.grow g3).due, by simp only [List.length_map]; exact szle (by omega), fun r hr3 => ?_⟩
    have g4 : But (fun _ => False) H (upd H3 r (.lst (ys ++ xs.map V.int))) := g3.trans (But.new hr3)
    have hr4 : (upd H3 r (.lst (ys ++ xs.map V.int))) r = some (.lst (ys ++ xs.map V.int)) := upd_same
    generalize upd H3 r (.lst (ys ++ xs.map V.int)) = H4 at g4 hr4 ⊢
    have D4 := D.grow g4
    have ba4 := ba.grow g4
    have dp4 : DpAll K H4 (ys ++ xs.map V.int) (es ++ xs.map PyData.int) := DpAll.append (DpAll.part (fun b o h => g4 b o h id) _ _ dp) (DpAll.ints xs)
    refine ⟨r, rfl, ⟨_, SqL.of hr4⟩, for_list (xs := ys ++ xs.map V.int) (fun _ σ H5 => H5 = H4 ∧ ∃ x y : Option V, σ = [some (.ref p), some (.ref u), some (.ref t), some (.ref q), x, y]) ⟨rfl, _, _, rfl⟩ (fun _ _ _ _ h => h.1 ▸ SqL.of hr4) ?_ ?_⟩
    · rintro i x σ H5 hx ⟨rfl, x4, x5, rfl⟩
      obtain ⟨e, _, he⟩ := DpAll.at dp4 hx
      refine ⟨_, rfl, _, rfl, p, dx, _, rfl, g4 _ _ ob id, p, d, sh, ks, x, e, rfl, ba4, he, _, rfl, ?_⟩
      rw [has_due hm]
      refine ⟨_, rfl, x, e, rfl, he, _, rfl, ite2 (fun hv => ?_) (fun hv => ?_)⟩
      · cases he with
        | int n =>
          refine ⟨_, rfl, _, rfl, u, _, rfl, .inl (SqL.of D4.due), rfl, flat_ints xs, rfl, _, rfl, ?_⟩
          rw [show hasV xs (.int n) = decide (n ∈ xs) from by
            show (decide (Fits n) && _) = _
            rw [show decide (Fits n) = true from hv]
            rfl]
          show (if (!decide (V.bl (decide (n ∈ xs)) = V.bl (inV (.int n) (xs.map V.int)))) = true then _ else _)
          rw [inV_int, decide_eq_true (rfl : V.bl (decide (n ∈ xs)) = V.bl (decide (n ∈ xs)))]
          exact iteF ⟨rfl, _, _, rfl⟩
        | _ => cases hv
      · refine ⟨rfl, _, rfl, ?_⟩
        rw [show hasV xs e = false from by
          cases e with
          | int n =>
            show (decide (Fits n) && _) = false
            rw [show decide (Fits n) = false from by simpa [isVal] using hv]
            rfl
          | _ => rfl]
        exact iteF ⟨rfl, _, _, rfl⟩
    · rintro σ H5 ⟨rfl, x4, x5, rfl⟩
      refine ⟨_, rfl, p, dx, _, rfl, g4 _ _ ob id, bl_m _ _ (by decide +kernel) (by decide +kernel), p, d, sh, ks, xs, rfl, ba4, nd, D.up, hm, fun q' H6 hq' hq6 g6 => ?_⟩
      exact ⟨_, rfl, eq_ints (SqL.of hq6) (SqL.of (D4.grow g6).due) (k H6 (g4.trans g6))⟩
end
end K09

set_option Elab.async false
set_option linter.all false
set_option maxRecDepth 100000
set_option maxHeartbeats 4000000
set_option pp.maxSteps 300
namespace K09
open PySem L2 L2.G42
/-- one of two is changed -/
def put {α : Type} (f : Bool → α) (j : Bool) (v : α) : Bool → α := fun i => if i = j then v else f i
theorem put_at {α : Type} (f : Bool → α) (j : Bool) (v : α) : put f j v j = v := if_pos rfl
theorem put_ne {α : Type} (f : Bool → α) {i j : Bool} (v : α) (h : i ≠ j) : put f j v i = f i := if_neg h
def two {α : Type} (x y : α) : Bool → α := fun j => cond j y x
/-- what stands between two turns: the source at a, the lists due at DU, the bags at BA; G: the data -/
structure Wb (C : Addr) (H0 H G : Hp) (a DU BA : Addr) (p d u : Bool → Addr) (sh : Bool → Bool) (ks xs : Bool → List Int) (m : Nat) : Prop where
  sr : SrcAt H a
  dl : H DU = some (.lst [.ref (u false), .ref (u true)])
  bl : H BA = some (.lst [.ref (p false), .ref (p true)])
  bag : ∀ j, BagAt C H (p j) (d j) (sh j) (ks j)
  due : ∀ j, H (u j) = some (.lst ((xs j).map V.int))
  nd : ∀ j, (ks j).Nodup
  up : ∀ j, (xs j).Pairwise (· < ·)
  same : ∀ j x, x ∈ ks j ↔ x ∈ xs j
  fit : ∀ j, ∀ x ∈ xs j, Fits x
  few : ∀ j, (xs j).length ≤ m
  part : Part G H
  au : ∀ j, u j ≠ a
  pp : ∀ i j, i ≠ j → p i ≠ p j
  dd : ∀ i j, i ≠ j → d i ≠ d j
  ga : G a = none
  gD : G DU = none
  gp : ∀ j, G (p j) = none ∧ G (d j) = none
  fr : But (fun _ => False) H0 H
  fa : H0 a = none
  fD : H0 DU = none
  fp : ∀ j, H0 (p j) = none ∧ H0 (d j) = none
section
variable {C : Addr} {H0 H H' G G' : Hp} {a DU BA : Addr} {p d u : Bool → Addr} {sh : Bool → Bool} {ks xs : Bool → List Int} {m : Nat}
theorem ne_o {x y : Addr} {o o' : HO} (hx : H x = some o) (hy : H y = some o') (h : o ≠ o') : x ≠ y := fun e => by
  subst e
  exact h (Option.some.inj (hx.symm.trans hy))
theorem Wb.nDa (w : Wb C H0 H G a DU BA p d u sh ks xs m) : DU ≠ a := by
  obtain ⟨c, st, n, e⟩ := w.sr
  exact ne_o w.dl e (by simp [src])
theorem Wb.nBa (w : Wb C H0 H G a DU BA p d u sh ks xs m) : BA ≠ a := by
  obtain ⟨c, st, n, e⟩ := w.sr
  exact ne_o w.bl e (by simp [src])
theorem Wb.nuD (w : Wb C H0 H G a DU BA p d u sh ks xs m) (j : Bool) : u j ≠ DU := ne_o (w.due j) w.dl (by
  intro e
  injection e with e
  cases h : xs j with
  | nil => rw [h] at e; cases e
  | cons x l => rw [h] at e; cases e)
theorem Wb.npl (w : Wb C H0 H G a DU BA p d u sh ks xs m) (j : Bool) {x : Addr} {vs : List V} (h : H x = some (.lst vs)) : p j ≠ x ∧ d j ≠ x := by
  obtain ⟨⟨dx, ob⟩, dc⟩ := w.bag j
  exact ⟨ne_o ob h (by intro e; cases e), ne_o dc h (by intro e; cases e)⟩
theorem Wb.npd (w : Wb C H0 H G a DU BA p d u sh ks xs m) (i j : Bool) : p i ≠ d j := by
  obtain ⟨⟨dx, ob⟩, dc⟩ := w.bag i
  obtain ⟨⟨dx', ob'⟩, dc'⟩ := w.bag j
  exact ne_o ob dc' (by intro e; cases e)
theorem Wb.nBD (w : Wb C H0 H G a DU BA p d u sh ks xs m) : BA ≠ DU := fun e => by
  have h1 := w.bl
  rw [e, w.dl] at h1
  injection h1 with h1
  injection h1 with h1
  injection h1 with h1 h2
  injection h1 with h1
  exact (w.npl false (w.due false)).1 h1.symm
theorem Wb.keep {S : Addr → Prop} (w : Wb C H0 H G a DU BA p d u sh ks xs m) (g : But S H H') (s : SrcAt H' a) (pt : Part G' H') (gz : ∀ x, H x ≠ none → G x = none → G' x = none) (sv : ∀ x, S x → x ≠ DU ∧ x ≠ BA ∧ ∀ j, x ≠ p j ∧ x ≠ d j ∧ x ≠ u j) (fr : But (fun _ => False) H0 H') : Wb C H0 H' G' a DU BA p d u sh ks xs m := by
  have hs : ∀ {x : Addr} {o : HO}, H x = some o → H x ≠ none := fun {x o} e => by rw [e]; simp
  refine ⟨s, g _ _ w.dl fun q => (sv _ q).1 rfl, g _ _ w.bl fun q => (sv _ q).2.1 rfl, fun j => (w.bag j).same g (fun q => ((sv _ q).2.2 j).1 rfl) (fun q => ((sv _ q).2.2 j).2.1 rfl), fun j => g _ _ (w.due j) fun q => ((sv _ q).2.2 j).2.2 rfl,
    w.nd, w.up, w.same, w.fit, w.few, pt, w.au, w.pp, w.dd, ?_, gz _ (hs w.dl) w.gD, fun j => ?_, fr, w.fa, w.fD, w.fp⟩
  · obtain ⟨c, st, n, e⟩ := w.sr
    exact gz _ (hs e) w.ga
  · obtain ⟨⟨dx, ob⟩, dc⟩ := w.bag j
    exact ⟨gz _ (hs ob) (w.gp j).1, gz _ (hs dc) (w.gp j).2⟩
theorem Wb.grow (w : Wb C H0 H G a DU BA p d u sh ks xs m) (g : But (fun _ => False) H H') : Wb C H0 H' G a DU BA p d u sh ks xs m :=
  w.keep g (SrcAt.but w.sr g) (w.part.grow g) (fun _ _ h => h) (fun _ h => h.elim) (w.fr.trans g)
theorem Wb.any (w : Wb C H0 H G a DU BA p d u sh ks xs m) (g : But (· = a) H H') (s : SrcAt H' a) (pt : Part G' H') (gz : ∀ x, H x ≠ none → G x = none → G' x = none) : Wb C H0 H' G' a DU BA p d u sh ks xs m := by
  obtain ⟨c, st, n, e⟩ := w.sr
  refine w.keep g s pt gz (fun x h => ?_) fun x o h _ => g x o (w.fr x o h id) (ne_of_none h w.fa)
  rw [h]
  exact ⟨w.nDa.symm, w.nBa.symm, fun j => ⟨(w.npl j e).1.symm, (w.npl j e).2.symm, (w.au j).symm⟩⟩
theorem Wb.take (w : Wb C H0 H G a DU BA p d u sh ks xs m) (c st n : Int) : Wb C H0 (upd H a (src c st n)) G a DU BA p d u sh ks xs m :=
  w.any (But.at rfl) ⟨c, st, n, upd_same⟩ (w.part.upd w.ga) fun _ _ h => h
theorem Wb.fresh (w : Wb C H0 H G a DU BA p d u sh ks xs m) {x : Addr} (h : H x = none) : x ≠ a ∧ x ≠ DU ∧ x ≠ BA ∧ ∀ j, x ≠ p j ∧ x ≠ d j ∧ x ≠ u j := by
  obtain ⟨c, st, n, e⟩ := w.sr
  refine ⟨(ne_of_none e h).symm, (ne_of_none w.dl h).symm, (ne_of_none w.bl h).symm, fun j => ?_⟩
  obtain ⟨⟨dx, ob⟩, dc⟩ := w.bag j
  exact ⟨(ne_of_none ob h).symm, (ne_of_none dc h).symm, (ne_of_none (w.due j) h).symm⟩
/-- a list that came later is changed -/
theorem Wb.aside (w : Wb C H0 H G a DU BA p d u sh ks xs m) {x : Addr} {o : HO} (g : G x = none) (h0 : H0 x = none) (ne : x ≠ a ∧ x ≠ DU ∧ x ≠ BA ∧ ∀ j, x ≠ p j ∧ x ≠ d j ∧ x ≠ u j) : Wb C H0 (upd H x o) G a DU BA p d u sh ks xs m := by
  obtain ⟨c, st, n, e⟩ := w.sr
  refine w.keep (S := (· = x)) (But.at rfl) ⟨c, st, n, by rw [upd_ne ne.1.symm]; exact e⟩ (w.part.upd g) (fun _ _ h => h) (fun y hy => ?_) (w.fr.fresh h0)
  rw [hy]
  exact ne.2
theorem Wb.due_ (w : Wb C H0 H G a DU BA p d u sh ks xs m) (hm : m ≤ 100) (j : Bool) : Due C H (p j) (u j) (sh j) (xs j) := by
  refine ⟨⟨d j, ks j, w.bag j, w.nd j, ?_, w.same j, (w.npl j (w.due j)).2⟩, w.due j, w.up j, w.fit j, Nat.le_trans (w.few j) hm⟩
  exact Nat.le_antisymm (nd_len (w.nd j) fun x hx => (w.same j x).1 hx) (nd_len (up_nd (w.up j)) fun x hx => (w.same j x).2 hx)
theorem Wb.kfew (w : Wb C H0 H G a DU BA p d u sh ks xs m) (j : Bool) : (ks j).length ≤ m := Nat.le_trans (nd_len (w.nd j) fun x hx => (w.same j x).1 hx) (w.few j)
/-- a bag is changed, and its list is due anew -/
theorem Wb.redo (w : Wb C H0 H G a DU BA p d u sh ks xs m) (j : Bool) {d' q : Addr} {ks' zs : List Int} {m' : Nat} (g : But (fun x => x = p j ∨ x = d j) H H') (nb : BagAt C H' (p j) d' (sh j) ks') (hd : d' = d j ∨ H d' = none) (hq : H q = none) (hq' : H' q = some (.lst (zs.map V.int)))
    (nd : ks'.Nodup) (up : zs.Pairwise (· < ·)) (same : ∀ x, x ∈ ks' ↔ x ∈ zs) (fit : ∀ x ∈ zs, Fits x) (few : zs.length ≤ m') (hm : m ≤ m') :
    Wb C H0 (upd H' DU (.lst [.ref (put u j q false), .ref (put u j q true)])) G a DU BA p (put d j d') (put u j q) sh (put ks j ks') (put xs j zs) m' := by
  obtain ⟨c, st, n, es⟩ := w.sr
  have nS : ∀ {x : Addr} {vs : List V}, H x = some (.lst vs) → ¬ (x = p j ∨ x = d j) := fun {x vs} h e => e.elim (fun e => (w.npl j h).1 e.symm) (fun e => (w.npl j h).2 e.symm)
  have hd0 : ∀ {x : Addr} {o : HO}, H x = some o → (∀ ks, o ≠ .dK ks) → x ≠ d' := fun {x o} h ho => by
    rcases hd with e | e
    · rw [e]
      obtain ⟨_, dc⟩ := w.bag j
      exact ne_o h dc (ho _)
    · exact ne_of_none h e
  have gpart : Part G H' := w.part.but g fun x hx => hx.elim (fun e => by rw [e]; exact (w.gp j).1) (fun e => by rw [e]; exact (w.gp j).2)
  have gd' : G d' = none := hd.elim (fun e => by rw [e]; exact (w.gp j).2) (fun e => w.part.free e)
  have fd' : H0 d' = none := hd.elim (fun e => by rw [e]; exact (w.fp j).2) (fun e => w.fr.free e)
  refine ⟨⟨c, st, n, ?_⟩, upd_same, ?_, fun i => ?_, fun i => ?_, fun i => ?_, fun i => ?_, fun i x => ?_, fun i => ?_, fun i => ?_, gpart.upd w.gD, fun i => ?_, w.pp, fun i k hik => ?_, w.ga, w.gD, fun i => ?_, ?_, w.fa, w.fD, fun i => ?_⟩
  · rw [upd_ne w.nDa.symm]
    exact g _ _ es (nS es)
  · rw [upd_ne w.nBD]
    exact g _ _ w.bl (nS w.bl)
  · have b : BagAt C H' (p i) (put d j d' i) (sh i) (put ks j ks' i) := by
      by_cases e : i = j
      · subst e
        rw [put_at, put_at]
        exact nb
      · rw [put_ne _ _ e, put_ne _ _ e]
        refine (w.bag i).same g (fun q => ?_) (fun q => ?_)
        · exact q.elim (w.pp i j e) (w.npd i j)
        · exact q.elim (fun q => w.npd j i q.symm) (w.dd i j e)
    obtain ⟨⟨dx, ob⟩, dc⟩ := b
    refine ⟨⟨dx, ?_⟩, ?_⟩
    · rw [upd_ne (w.npl i w.dl).1]
      exact ob
    · have : put d j d' i ≠ DU := by
        by_cases e : i = j
        · subst e
          rw [put_at]
          exact fun q => hd0 w.dl (fun _ z => by cases z) q.symm
        · rw [put_ne _ _ e]
          exact (w.npl i w.dl).2
      rw [upd_ne this]
      exact dc
  · have hqD : q ≠ DU := (ne_of_none w.dl hq).symm
    by_cases e : i = j
    · subst e
      rw [put_at, put_at, upd_ne hqD]
      exact hq'
    · rw [put_ne _ _ e, put_ne _ _ e, upd_ne (w.nuD i)]
      exact g _ _ (w.due i) (nS (w.due i))
  · by_cases e : i = j
    · subst e; rw [put_at]; exact nd
    · rw [put_ne _ _ e]; exact w.nd i
  · by_cases e : i = j
    · subst e; rw [put_at]; exact up
    · rw [put_ne _ _ e]; exact w.up i
  · by_cases e : i = j
    · subst e; rw [put_at, put_at]; exact same x
    · rw [put_ne _ _ e, put_ne _ _ e]; exact w.same i x
  · by_cases e : i = j
    · subst e; rw [put_at]; exact fit
    · rw [put_ne _ _ e]; exact w.fit i
  · by_cases e : i = j
    · subst e; rw [put_at]; exact few
    · rw [put_ne _ _ e]; exact Nat.le_trans (w.few i) hm
  · by_cases e : i = j
    · subst e; rw [put_at]; exact (ne_of_none es hq).symm
    · rw [put_ne _ _ e]; exact w.au i
  · have key : ∀ i, i ≠ j → d i ≠ d' := fun i e => by
      rcases hd with q | q
      · rw [q]; exact w.dd i j e
      · exact ne_of_none (w.bag i).dc q
    by_cases e : i = j
    · subst e
      rw [put_at, put_ne _ _ (fun q => hik q.symm)]
      exact (key k fun q => hik q.symm).symm
    · rw [put_ne _ _ e]
      by_cases e2 : k = j
      · subst e2
        rw [put_at]
        exact key i e
      · rw [put_ne _ _ e2]
        exact w.dd i k hik
  · by_cases e : i = j
    · subst e; rw [put_at]; exact ⟨(w.gp i).1, gd'⟩
    · rw [put_ne _ _ e]; exact w.gp i
  · refine But.fresh (fun x o hx _ => g x o (w.fr x o hx id) fun e => ?_) w.fD
    rcases e with e | e
    · rw [e, (w.fp j).1] at hx; cases hx
    · rw [e, (w.fp j).2] at hx; cases hx
  · by_cases e : i = j
    · subst e; rw [put_at]; exact ⟨(w.fp i).1, fd'⟩
    · rw [put_ne _ _ e]; exact w.fp i
end
end K09

set_option Elab.async false
set_option linter.all false
set_option maxRecDepth 100000
set_option maxHeartbeats 8000000
set_option pp.maxSteps 300
namespace K09
open PySem L2 L2.G42
open Evl (pss_cut)
open PyProof.Rows (boot_isinstance boot_int boot_bool boot_list boot_set boot_abs boot_enumerate boot_tuple)
abbrev sLaw : Stmt := top 21
/-- Bag(x, shared=y) -/
structure MkS (P : Program) (w : World) (K : PySem.W.Frag) (mg : Str → Option Value) (base : Heap) (C B : Addr) : Prop where
  ex : ∃ (f : Addr) (fd : FuncData), Mk K C f ∧ FnOk P w K mg base (L2.CX P w) 3 f fd ["self", "values", "shared"] (spInit K C B) ∧ KBn K fd ["self", "values", "shared"] 2 ["shared"] (fun us ws => us ++ ws) (fun vs zs => vs ++ zs)
/-- what law calls -/
structure Calls (P : Program) (w : World) (K : PySem.W.Frag) (mg : Str → Option Value) (base : Heap) (C B et : Addr) : Prop where
  source : Cl P w K mg base 1 "_law_source" (spSource K) []
  take : Cl P w K mg base 1 "_law_take" spTake []
  value : Cl P w K mg base 2 "_law_value" spValue []
  values : Cl P w K mg base 3 "_law_values" spValues []
  any : Cl P w K mg base 5 "_law_any" (spAny K 2) []
  isV : Cl P w K mg base 1 "_law_is_value" (spIsVal K) []
  ref : ClG P w K mg base 4 "_law_refused" (spRef K C) []
  unm : ClG P w K mg base 5 "_law_unmade" (spUnm K) []
  right : Cl P w K mg base 4 "_law_right" (spRight K C) []
  told : Mt P w K mg base 1 C "told" (spTold C) []
  add : MtX P w K mg base 3 C "add" (spAdd K C B) []
  clear : Mt P w K mg base 1 C "clear" (spClear C) []
  form : Mt P w K mg base 1 C "form" spForm []
  bag : NwX P w K mg base 3 "Bag" C (spInit K C B) [.bl false]
  bag0 : NwX P w K mg base 3 "Bag" C (spInit K C B) [.ref et, .bl false]
  bagS : MkS P w K mg base C B
  empty : ∀ H : Hp, SqT K H et []
  gl : mg "Bag" = some (.ref C)
def spLaw (K : PySem.W.Frag) : Sp := fun vs H Q _ => ∃ (a : Addr) (ns : List Int), vs = [.ref a] ∧ SqL K H a (ns.map V.int) ∧ ns.length ≤ 63 ∧ ∀ H', Q (.bl true) H'
abbrev NLaw : List Str := ["_law_script", "_law_at", "_law_source_here", "_law_given", "_law_dues", "_law_is_shared", "_law_bags", "_law_things", "_law_turn", "_law_k", "_law_thing", "_law_kind", "_law_wrong"]
theorem scLaw : FnScope NLaw ["_law_script"] (defScope sLaw) := ⟨rfl, rfl, rfl, by decide +kernel, rfl, by decide +kernel, by decide +kernel⟩
section
variable {P : Program} {w : World} {K : PySem.W.Frag} {mg : Str → Option Value} {base : Heap} {C B et : Addr}
def sh0 : List PyData → V
  | [] => .non
  | e :: _ => .str e.shown
theorem sh0_of {ns : List Int} {es : List PyData} (h : ∀ n ∈ ns, Fits n) : shownBad (ns.map PyData.int ++ es) = sh0 (es.filter fun e => !isVal e) := by
  unfold shownBad
  rw [List.find?_append, find_none h, Option.none_or, ← List.head?_filter]
  cases es.filter fun e => !isVal e <;> rfl
theorem both {R G : Prop} (h : R → G) (r : R) : G := h r
theorem make_one {H : Hp} {R : Hp → Prop} {E : XK} {l : Addr} {ns : List Int} {sh : Bool} (hl : SqL K H l (ns.map V.int) ∨ SqT K H l (ns.map V.int)) (fit : ∀ n ∈ ns, Fits n) (few : ns.length ≤ 1000) {x dx : Addr} (hx : H x = none) (hdx : H dx = none) (ne : dx ≠ x)
    (k : ∀ (d : Addr) (H' : Hp), H d = none → BagAt C H' x d sh (insAll [] ns) → But (fun _ => False) H H' → R H') :
    spInit K C B [.ref x, .ref l, .bl sh] (upd (upd H dx (.own x)) x (.ins C dx [])) (fun v H2 => v = .non ∧ R H2) E := by
  have g : But (fun _ => False) H (upd (upd H dx (.own x)) x (.ins C dx [])) := But.fresh (But.new hdx) hx
  have pt : Part H (upd (upd H dx (.own x)) x (.ins C dx [])) := fun b o e => g b o e id
  refine ⟨x, dx, l, ns.map V.int, ns.map PyData.int, sh, rfl, upd_same, hl.elim (fun h => .inl (SqL.part h pt)) (fun h => .inr (SqT.part h pt)), DpAll.ints ns, by rw [List.length_map]; exact few, fun i y d hy hd hv => ?_, fun ms e1 hf e2 d H' hd BA bt => ⟨rfl, ?_⟩⟩
  · rw [List.getElem?_map] at hd
    obtain ⟨n, hn, rfl⟩ := Option.map_eq_some_iff.mp hd
    rw [show isVal (.int n) = true from decide_eq_true (fit n (List.mem_of_getElem? hn))] at hv
    cases hv
  · obtain rfl := map_int_inj e1
    exact k d H' (g.free hd) BA fun b o hb _ => bt b o (g b o hb id) (ne_of_none hb hx)
theorem ok_law {f : Addr} {fd : FuncData} (F : Fun K "law" "law" sLaw f fd) (T : Bn mg) (Cb : BagC K C) (c : Calls P w K mg base C B et) : FnG P w K mg base CX0 6 f fd ["_law_script"] (spLaw K) := by
  refine Fun.okG F scLaw (fun vs H Q E h => ?_) (fun cdv A outer s H vs Q E hr gu h => ?_)
  · obtain ⟨a, ns, rfl, _⟩ := h
    rfl
  · obtain ⟨a, ns, rfl, ha, few, k⟩ := h
    have hu := hr.units
    obtain ⟨fm, fdm, Mm, Fm, bm⟩ := c.bagS.ex
    refine ⟨_, (pss_cons (ps_for PassesOwn.never rfl (pi_range1 (by rfl) T.range (pa_cons (pe_callB (call_max2 rfl) (by rfl) T.max boot_max (pa_cons pe_int (pa_cons (pe_callB (call_min2 rfl) (by rfl) T.min boot_min (pa_cons pe_int (pa_cons (pe_callB call_len_seq (by rfl) T.len PySem.boot_len (pa_cons (pv 0) pa_nil)) pa_nil))) pa_nil))) pa_nil)) (pg_name (i := 1) scLaw.nd rfl (.inl rfl))
      (pss_cons (ps_set (i := 2) scLaw.nd rfl (.inr rfl) (pe_c c.source hr (by decide) rfl (pa_cons (pv 0) (pa_cons (pv 1) pa_nil))))
        (pss_cons (ps_set (i := 3) scLaw.nd rfl (.inl rfl) (pe_lst (pa_cons (pe_c c.values hr (by decide) rfl (pa_cons (pv 2) (pa_cons pe_int pa_nil))) (pa_cons (pe_c c.values hr (by decide) rfl (pa_cons (pv 2) (pa_cons pe_int pa_nil))) pa_nil))))
        (pss_cons (ps_set (i := 4) scLaw.nd rfl (.inl rfl) (pe_lst (pa_cons (pe_callB (cr_sortedSet rfl) (by rfl) T.sorted boot_sorted (pa_cons (pe_callTy (cr_setL rfl) (by rfl) T.set boot_set (pa_cons (pe_ix ix_list (pv 3) pe_int (fun _ _ => rfl)) pa_nil)) pa_nil)) (pa_cons (pe_callB (cr_sortedSet rfl) (by rfl) T.sorted boot_sorted (pa_cons (pe_callTy (cr_setL rfl) (by rfl) T.set boot_set (pa_cons (pe_ix ix_list (pv 3) pe_int (fun _ _ => rfl)) pa_nil)) pa_nil)) pa_nil))))
        (pss_cons (ps_set (i := 5) scLaw.nd rfl (.inl rfl) (pe_cmpR op_eq (pe_c c.take hr (by decide) rfl (pa_cons (pv 2) (pa_cons pe_int pa_nil))) pe_int (nomark _)))
        (pss_cons (ps_set (i := 6) scLaw.nd rfl (.inl rfl) (pe_lst (pa_cons (pe_mkx c.bag hr (by decide) rfl (pa_cons (pe_ix ix_list (pv 3) pe_int (fun _ _ => rfl)) pa_nil)) (pa_cons (pe_makeN Mm Fm (hr.mono (by decide)) rfl c.gl bm passL (pa_cons (pe_callTy call_tuple_of (by rfl) T.tuple boot_tuple (pa_cons (pe_ix ix_list (pv 3) pe_int (fun _ _ => rfl)) pa_nil)) pa_nil) (pk_cons (pv 5) pk_nil)) pa_nil))))
        (pss_cons (ps_expr (pe_bm PySem.F.plainAttrs_list PySem.F.slot_list_append PySem.F.type_list_append mt_append (pe_ix ix_list (pv 3) pe_int (fun _ _ => rfl)) (pa_cons (pe_op op_pow pe_int pe_int) pa_nil)))
        (pss_cons (ps_setLc (i := 7) (own := [("_law_turn", 8)]) (g := gName 8) (tt := tYes) rfl scLaw.nd rfl rfl (sw_true rfl rfl rfl (by decide +kernel)) (pi_range1 (by rfl) T.range (pa_cons pe_int pa_nil)) (blkOk_by (own := [("_law_turn", 8)]) (N := NLaw) (sc := defScope sLaw) (by decide +kernel))
    (fun _ _ _ _ _ => (pg_name (i := 8) scLaw.nd rfl (.inl rfl))) (fun _ _ _ _ _ => pts_nil) (fun _ _ _ _ _ => (pe_c c.any hr (by decide) rfl (pa_cons (pv 2) (pa_cons (pe_lst (pa_cons (pe_op op_pow pe_int pe_int) (pa_cons (pe_op op_add (pe_op op_pow pe_int pe_int) pe_int) (pa_cons (pe_op op_sub (pe_un un_neg (pe_op op_pow pe_int pe_int)) pe_int) (pa_cons pe_int (pa_cons pe_bl pa_nil)))))) (pa_cons pe_int pa_nil))))))
        (pss_cons (ps_for PassesOwn.never rfl (pi_range1 (by rfl) T.range (pa_cons (pe_c c.take hr (by decide) rfl (pa_cons (pv 2) (pa_cons pe_int pa_nil))) pa_nil)) (pg_name (i := 8) scLaw.nd rfl (.inl rfl))
        (pss_cons (ps_par rfl scLaw.nd rfl rfl (by decide) rfl rfl (pa_cons (pe_c c.take hr (by decide) rfl (pa_cons (pv 2) (pa_cons pe_int pa_nil))) (pa_cons (pe_c c.value hr (by decide) rfl (pa_cons (pv 2) pa_nil)) pa_nil)) (by rfl) (i := 9) (j := 10))
          (pss_cons (ps_set (i := 11) scLaw.nd rfl (.inl rfl) (pe_c c.take hr (by decide) rfl (pa_cons (pv 2) (pa_cons pe_int pa_nil))))
          (pss_cut (ps_if (pt_cmpR op_eq (pv 11) pe_int (nomark _))
          (pss_cons (ps_if (pt_cmpR op_notN (pe_mt0 c.clear hr (by decide) (pe_ix ix_list (pv 6) (pv 9) (fun _ _ => rfl))) pe_non (nomark _))
            (pss_one (ps_ret pe_bl))
            pss_nil)
            (pss_one (ps_asg (pe_lst pa_nil) (pg_sub (pv 4) (pv 9) set_list))))
          (pss_one (ps_if (pt_cmpR op_lt (pv 11) pe_int (nomark _))
            (pss_cons (ps_set (i := 10) scLaw.nd rfl (.inl rfl) (pe_c c.any hr (by decide) rfl (pa_cons (pv 2) (pa_cons (pv 7) (pa_cons pe_int pa_nil)))))
              (pss_one (ps_if (PW.pt (pw_and (pt_not (pt_val (pe_c c.isV hr (by decide) rfl (pa_cons (pv 10) pa_nil)))) (pw_and1 (pt_cmpR (op_neD hu) (pe_cg c.ref hr (by decide) gu rfl (pa_cons (pe_ix ix_list (pv 6) (pv 9) (fun _ _ => rfl)) (pa_cons (pv 10) pa_nil))) (pe_tup (pa_cons (pe_callB (call_reprK (K := K) rfl gu hu) (by rfl) T.repr boot_repr (pa_cons (pv 10) pa_nil)) (pa_cons pe_bl pa_nil))) (nomark _)))))
              (pss_one (ps_ret pe_bl))
              pss_nil)))
            (pss_one (ps_if (pt_cmpR op_notN (pe_mtx c.add hr (by decide) (pe_ix ix_list (pv 6) (pv 9) (fun _ _ => rfl)) (pa_cons (pv 10) pa_nil)) pe_non (nomark _))
              (pss_one (ps_ret pe_bl))
              (pss_one (ps_asg (pe_callB (cr_sortedSet rfl) (by rfl) T.sorted boot_sorted (pa_cons (pe_callTy (cr_setL rfl) (by rfl) T.set boot_set (pa_cons (pe_op op_cat (pe_ix ix_list (pv 4) (pv 9) (fun _ _ => rfl)) (pe_lst (pa_cons (pv 10) pa_nil))) pa_nil)) pa_nil)) (pg_sub (pv 4) (pv 9) set_list))))))))
          (pss_one (ps_if (PW.pt (pw_or (pt_not (pt_val (pe_c c.right hr (by decide) rfl (pa_cons (pe_ix ix_list (pv 6) pe_int (fun _ _ => rfl)) (pa_cons (pe_ix ix_list (pv 4) pe_int (fun _ _ => rfl)) (pa_cons (pv 7) pa_nil)))))) (pw_or1 (pt_not (pt_val (pe_c c.right hr (by decide) rfl (pa_cons (pe_ix ix_list (pv 6) pe_int (fun _ _ => rfl)) (pa_cons (pe_ix ix_list (pv 4) pe_int (fun _ _ => rfl)) (pa_cons (pv 7) pa_nil)))))))))
          (pss_one (ps_ret pe_bl))
          pss_nil))))))
        (pss_cons (ps_setLc (i := 12) (own := [("_law_thing", 10)]) (g := gName 10) (tt := tNot (tB (tCall (spIsVal K) [] E0 (tCons (tVar 10) tNil)))) rfl scLaw.nd rfl rfl (sw_true rfl rfl rfl (by decide +kernel)) (pi_list (pv 7)) (blkOk_by (own := [("_law_thing", 10)]) (N := NLaw) (sc := defScope sLaw) (by decide +kernel))
    (fun _ _ _ _ _ => (pg_name (i := 10) scLaw.nd rfl (.inl rfl))) (fun _ _ _ _ _ => (pts_one (pt_not (pt_val (pe_c c.isV hr (by decide) rfl (pa_cons (pv 10) pa_nil)))))) (fun _ _ _ _ _ => (pv 10)))
        (pss_cons (ps_if (pt_cmpR (op_neD hu) (pe_cg c.unm hr (by decide) gu rfl (pa_cons (pe_op op_cat (pe_ix ix_list (pv 4) pe_int (fun _ _ => rfl)) (pv 7)) pa_nil)) (pe_ifExp (pt_cmpR (op_neD hu) (pv 12) (pe_lst pa_nil) (nomark _)) (pe_callB (call_reprK (K := K) rfl gu hu) (by rfl) T.repr boot_repr (pa_cons (pe_ix ix_list (pv 12) pe_int (fun _ _ => rfl)) pa_nil)) pe_non) (nomark _))
        (pss_one (ps_ret pe_bl))
        pss_nil)
        (pss_cons (ps_if (PW.pt (pw_or (pt_cmpR op_notBl (pe_fld (pe_ix ix_list (pv 6) pe_int (fun _ _ => rfl)) rfl) pe_bl (nomark _)) (pw_or (pt_cmpR op_ne (pe_fld (pe_ix ix_list (pv 6) pe_int (fun _ _ => rfl)) rfl) (pv 5) (nomark _)) (pw_or1 (pt_cmpR (op_neD hu) (pe_mt0 c.told hr (by decide) (pe_mkx0 c.bag0 hr (by decide) rfl) (mcall_of (abase_call (by decide)) (fun ov => rfl))) (pe_lst pa_nil) (nomark _))))))
        (pss_one (ps_ret pe_bl))
        pss_nil)
        (pss_one (ps_if (PW.pt (pw_or (pt_cmpR op_ne (pe_mt0 c.form hr (by decide) (pe_ix ix_list (pv 6) pe_int (fun _ _ => rfl))) pe_str (nomark _)) (pw_or1 (pt_cmpR op_ne (pe_mt0 c.form hr (by decide) (pe_ix ix_list (pv 6) pe_int (fun _ _ => rfl))) pe_str (nomark _)))))
        (pss_one (ps_ret pe_bl))
        pss_nil))))))))))))))
      (pss_one (ps_ret pe_bl))), ?_⟩
    -- range(max(1, min(4, len(script))))
    refine ⟨_, rfl, a, _, rfl, .inl ha, _, _, rfl, _, _, rfl, _, rfl, ?_, ?_, ?_⟩
    · split <;> split <;> omega
    · split <;> split <;> simp at * <;> omega
    refine for_range (lo := 0) (fun _ σ H1 => But (fun _ => False) H H1 ∧ ∃ x1 x2 x3 x4 x5 x6 x7 x8 x9 x10 x11 x12 : Option V, σ = [some (.ref a), x1, x2, x3, x4, x5, x6, x7, x8, x9, x10, x11, x12])
      ⟨But.refl, _, _, _, _, _, _, _, _, _, _, _, _, rfl⟩ ?_ (fun σ H1 h => k H1)
    rintro i σ H1 hi ⟨g1, x1, x2, x3, x4, x5, x6, x7, x8, x9, x10, x11, x12, rfl⟩
    -- the source, the given values
    refine ⟨_, rfl, _, rfl, a, ns, _, rfl, by omega, SqL.grow ha g1, fun S H2 hS src2 g2 => ?_⟩
    refine ⟨_, rfl, S, 5, rfl, by decide, src2, fun g0 n0 H3 hg0 eg0 l0 f0 src3 b3 => ⟨_, rfl, S, 5, rfl, by decide, src3, fun gg n1 H4 hgg egg l1 f1 src4 b4 => ⟨szle (by simp), fun GV hGV => ?_⟩⟩⟩
    have g0S : g0 ≠ S := fun e => src_ne src2 (e ▸ hg0)
    have ggS : gg ≠ S := fun e => src_ne src3 (e ▸ hgg)
    have eg0' : H4 g0 = some (.lst (n0.map V.int)) := b4 _ _ eg0 g0S
    have g14 : But (fun _ => False) H1 H4 := fun x o h _ => b4 x o (b3 x o (g2 x o h id) (ne_of_none h hS)) (ne_of_none h hS)
    have hGS : GV ≠ S := fun e => src_ne src4 (e ▸ hGV)
    have g15 : But (fun _ => False) H1 (upd H4 GV (.lst [.ref g0, .ref gg])) := g14.trans (But.new hGV)
    have eG : (upd H4 GV (.lst [.ref g0, .ref gg])) GV = some (.lst [.ref g0, .ref gg]) := upd_same
    have src5 : SrcAt (upd H4 GV (.lst [.ref g0, .ref gg])) S := SrcAt.but src4 (But.new hGV)
    have e50 : (upd H4 GV (.lst [.ref g0, .ref gg])) g0 = some (.lst (n0.map V.int)) := (But.new (S := fun _ => False) hGV) _ _ eg0' id
    have e51 : (upd H4 GV (.lst [.ref g0, .ref gg])) gg = some (.lst (n1.map V.int)) := (But.new (S := fun _ => False) hGV) _ _ egg id
    have h10 : H1 g0 = none := g2.free hg0
    generalize upd H4 GV (.lst [.ref g0, .ref gg]) = H5 at g15 eG src5 e50 e51 ⊢
    -- the lists due
    refine ⟨_, rfl, GV, _, _, _, rfl, rfl, SqL.of eG, rfl, ?_⟩
    obtain ⟨z0, up0, same0⟩ := ex_rise n0
    obtain ⟨z1, up1, same1⟩ := ex_rise n1
    dsimp only [tNil]
    refine set_sorted (K := K) (w := w) (ns := n0) (xs := z0) (SqL.of e50) (by omega) up0 (fun x => (same0 x).symm) fun u0 H6 hu0 eu0 g56 => ?_
    refine ⟨_, rfl, GV, _, _, _, rfl, rfl, SqL.of (g56 _ _ eG id), rfl, ?_⟩
    dsimp only [tNil]
    refine set_sorted (K := K) (w := w) (ns := n1) (xs := z1) (SqL.of (g56 _ _ e51 id)) (by omega) up1 (fun x => (same1 x).symm) fun u1 H7 hu1 eu1 g67 => ⟨szle (by simp), fun DU hDU => ?_⟩
    have g57 := g56.trans g67
    have g58 : But (fun _ => False) H5 (upd H7 DU (.lst [.ref u0, .ref u1])) := g57.trans (But.new hDU)
    have eD : (upd H7 DU (.lst [.ref u0, .ref u1])) DU = some (.lst [.ref u0, .ref u1]) := upd_same
    have e80 : (upd H7 DU (.lst [.ref u0, .ref u1])) u0 = some (.lst (z0.map V.int)) := (But.new (S := fun _ => False) hDU) _ _ (g67 _ _ eu0 id) id
    have e81 : (upd H7 DU (.lst [.ref u0, .ref u1])) u1 = some (.lst (z1.map V.int)) := (But.new (S := fun _ => False) hDU) _ _ eu1 id
    have hD5 : H5 DU = none := g57.free hDU
    have hu15 : H5 u1 = none := g56.free hu1
    generalize upd H7 DU (.lst [.ref u0, .ref u1]) = H8 at g58 eD e80 e81 ⊢
    -- whether the second one is shared
    refine ⟨_, rfl, S, 2, rfl, by decide, by decide, SrcAt.but src5 g58, fun r c0 st0 m0 r0 r1 => ⟨rfl, ?_⟩⟩
    generalize decide (V.int r = V.int 0) = shd
    have g19 : But (fun _ => False) H1 (upd H8 S (src c0 st0 m0)) := (g15.trans g58).fresh hS
    have b89 : But (· = S) H8 (upd H8 S (src c0 st0 m0)) := But.at rfl
    have src9 : SrcAt (upd H8 S (src c0 st0 m0)) S := ⟨_, _, _, upd_same⟩
    have nS5 : ∀ {x : Addr} {o : HO}, H5 x = none → H8 x = some o → x ≠ S := fun {x o} h _ e => src_ne src5 (e ▸ h)
    have eG9 := b89 _ _ (g58 _ _ eG id) (fun e => by
      obtain ⟨q1, q2, q3, q⟩ := src5
      rw [e, q] at eG
      cases eG)
    have eg9 := b89 _ _ (g58 _ _ e50 id) g0S
    have egg9 := b89 _ _ (g58 _ _ e51 id) ggS
    have eD9 := b89 _ _ eD (nS5 hD5 eD)
    have e90 := b89 _ _ e80 (nS5 hu0 e80)
    have e91 := b89 _ _ e81 (nS5 hu15 e81)
    have nu0S : u0 ≠ S := nS5 hu0 e80
    have nu1S : u1 ≠ S := nS5 hu15 e81
    have g0u : g0 ≠ u0 ∧ g0 ≠ u1 ∧ g0 ≠ DU := ⟨ne_of_none e50 hu0, ne_of_none e50 hu15, ne_of_none e50 hD5⟩
    generalize upd H8 S (src c0 st0 m0) = H9 at g19 src9 eG9 eg9 egg9 eD9 e90 e91 ⊢
    -- the bags
    refine ⟨_, rfl, GV, _, _, _, rfl, rfl, SqL.of eG9, rfl, ?_⟩
    intro p0 dx0 hp0 hdx0 ne0
    refine make_one (sh := false) (.inl (SqL.of eg9)) f0 (by omega) hp0 hdx0 ne0 fun d0 H10 hd0 B0 g910 => ?_
    refine ⟨_, rfl, GV, _, _, _, rfl, rfl, SqL.of (g910 _ _ eG9 id), rfl, gg, _, rfl, .inl ⟨SqL.of (g910 _ _ egg9 id), fun tt htt => ?_⟩⟩
    refine ⟨_, rfl, rfl, rfl, ?_⟩
    intro p1 dx1 hp1 hdx1 ne1
    refine make_one (sh := shd) (.inr (.inl (.inl upd_same))) f1 (by omega) hp1 hdx1 ne1 fun d1 H11 hd1 B1 g1011 => ⟨szle (by simp), fun BA hBA => ?_⟩
    have g1011' : But (fun _ => False) H10 H11 := (But.new htt).trans g1011
    have g911 := g910.trans g1011'
    have g912 : But (fun _ => False) H9 (upd H11 BA (.lst [.ref p0, .ref p1])) := g911.trans (But.new hBA)
    have eB : (upd H11 BA (.lst [.ref p0, .ref p1])) BA = some (.lst [.ref p0, .ref p1]) := upd_same
    have B0' := (B0.grow g1011').grow (But.new (o := .lst [.ref p0, .ref p1]) hBA)
    have B1' := B1.grow (But.new (o := .lst [.ref p0, .ref p1]) hBA)
    have hp1' : H10 p1 = none := (But.new htt).free hp1
    have hd1' : H10 d1 = none := (But.new htt).free hd1
    have hB9 : H9 BA = none := g911.free hBA
    generalize upd H11 BA (.lst [.ref p0, .ref p1]) = H12 at g912 eB B0' B1' ⊢
    have w12 : Wb C H1 H12 (fun _ => none) S DU BA (two p0 p1) (two d0 d1) (two u0 u1) (two false shd) (two (insAll [] n0) (insAll [] n1)) (two z0 z1) 6 := by
      have lz0 : z0.length ≤ 6 := Nat.le_trans (nd_len (up_nd up0) fun x hx => (same0 x).2 hx) (by omega)
      have lz1 : z1.length ≤ 6 := Nat.le_trans (nd_len (up_nd up1) fun x hx => (same1 x).2 hx) (by omega)
      have np : p0 ≠ p1 := by
        obtain ⟨⟨dx, ob⟩, dc⟩ := B0
        exact ne_of_none ob hp1'
      have nd' : d0 ≠ d1 := by
        obtain ⟨⟨dx, ob⟩, dc⟩ := B0
        exact ne_of_none dc hd1'
      refine ⟨SrcAt.but src9 g912, g912 _ _ eD9 id, eB, fun j => ?_, fun j => ?_, fun j => ?_, fun j => ?_, fun j x => ?_, fun j => ?_, fun j => ?_, fun _ _ h => (nomatch h), fun j => ?_, fun i j hij => ?_, fun i j hij => ?_, rfl, rfl, fun _ => ⟨rfl, rfl⟩, g19.trans g912, hS, g15.free hD5, fun j => ?_⟩
      · cases j
        · exact B0'
        · exact B1'
      · cases j
        · exact g912 _ _ e90 id
        · exact g912 _ _ e91 id
      · cases j
        · exact insAll_nd n0 List.nodup_nil
        · exact insAll_nd n1 List.nodup_nil
      · cases j
        · exact up0
        · exact up1
      · cases j
        · exact (insAll_mem x n0 []).trans ⟨fun h => h.elim (fun q => nomatch q) (same0 x).1, fun h => .inr ((same0 x).2 h)⟩
        · exact (insAll_mem x n1 []).trans ⟨fun h => h.elim (fun q => nomatch q) (same1 x).1, fun h => .inr ((same1 x).2 h)⟩
      · cases j
        · exact fun x hx => f0 x ((same0 x).2 hx)
        · exact fun x hx => f1 x ((same1 x).2 hx)
      · cases j
        · exact lz0
        · exact lz1
      · cases j
        · exact nu0S
        · exact nu1S
      · cases i <;> cases j
        · exact absurd rfl hij
        · exact np
        · exact np.symm
        · exact absurd rfl hij
      · cases i <;> cases j
        · exact absurd rfl hij
        · exact nd'
        · exact nd'.symm
        · exact absurd rfl hij
      · cases j
        · exact ⟨g19.free hp0, g19.free hd0⟩
        · exact ⟨g19.free (g910.free hp1'), g19.free (g910.free hd1')⟩
    -- given[0].append(10 ** 29)
    have eg12 := g912 _ _ eg9 id
    refine ⟨_, rfl, GV, _, _, _, rfl, rfl, SqL.of (g912 _ _ eG9 id), rfl, .inl ⟨rfl, _, SqL.of eg12⟩, _, _, rfl, rfl, ⟨by decide, by decide, by decide⟩, g0, _, _, rfl, rfl, eg12, by rw [List.length_map]; exact szl (by omega), ?_⟩
    have w13 := w12.aside (x := g0) (o := .lst (n0.map V.int ++ [.int (10 ^ (29 : Int).toNat)])) rfl h10 ⟨g0S, g0u.2.2, ne_of_none eg9 hB9, fun j => by
      cases j
      · exact ⟨ne_of_none eg9 hp0, ne_of_none eg9 hd0, g0u.1⟩
      · exact ⟨ne_of_none (g910 _ _ eg9 id) hp1', ne_of_none (g910 _ _ eg9 id) hd1', g0u.2.1⟩⟩
    generalize upd H12 g0 (.lst (n0.map V.int ++ [.int (10 ^ (29 : Int).toNat)])) = H13 at w13 ⊢
    clear w12 eg12 B0' B1' B0 B1 eB g912 g911 g1011 g1011' g910 hp1' hd1' hp0 hd0 hp1 hd1 hBA hB9 htt e90 e91 eD9 eg9 egg9 eG9 src9 g19 b89 nS5 e80 e81 eD g58 e50 e51 eG src5 g15 g14 eg0' egg eg0
    -- the things
    refine ⟨_, rfl, by decide, by decide, fun TH hTH => ?_⟩
    have ths := w13.fresh hTH
    have hT1 : H1 TH = none := w13.fr.free hTH
    refine lc_range (lo := 0) (n := (5 : Int).toNat) (fun i H14 => ∃ (ys : List V) (es : List PyData) (G : Hp), H14 TH = some (.lst ys) ∧ ys.length = i ∧ DpAll K G ys es ∧ (∀ e ∈ es, Gd 2 (wide 2 45) e) ∧
        Wb C H1 H14 G S DU BA (two p0 p1) (two d0 d1) (two u0 u1) (two false shd) (two (insAll [] n0) (insAll [] n1)) (two z0 z1) 6 ∧ G TH = none)
      ⟨[], [], fun _ => none, upd_same, rfl, .nil, by simp, w13.aside rfl hT1 ths, rfl⟩ (fun i H14 hi h => ?_) (fun H14 h => ?_)
    · obtain ⟨ys, es, G, h1, h2, h3, h4, w14, h6⟩ := h
      refine ⟨rfl, ?_⟩
      refine ⟨_, rfl, _, _, rfl, rfl, ⟨by decide, by decide, by decide⟩, _, _, rfl, rfl, ⟨by decide, by decide, by decide⟩, _, _, rfl, rfl, _, _, rfl, rfl, ⟨by decide, by decide, by decide⟩, _, rfl, _, _, rfl, rfl, szle (by simp), fun l hl => ?_⟩
      have w15 := w14.grow (But.new (o := .lst [.int (10 ^ (30 : Int).toNat), .int (10 ^ (30 : Int).toNat + 1), .int (-10 ^ (30 : Int).toNat - 1), .int 0, .bl true]) hl)
      refine ⟨S, l, _, [.int (10 ^ 30), .int (10 ^ 30 + 1), .int (-(10 ^ 30) - 1), .int 0, .bool true], G, 0, 45, rfl, w15.sr, SqL.of upd_same, (w14.fresh hl).1.symm, w15.part, w14.ga, .cons (.int _) (.cons (.int _) (.cons (.int _) (.cons (.int _) (.cons (.bl _) .nil)))), ?_, by decide, by simp, by simp, fun v e G' H16 b16 src16 p1' p2' fr16 dp16 gd16 => ?_⟩
      · have q : ([.int (10 ^ 30), .int (10 ^ 30 + 1), .int (-(10 ^ 30) - 1), .int 0, .bool true] : List PyData).all leafOk = true := by decide +kernel
        exact fun e he => Gd.leaf (List.all_eq_true.mp q e he) (by decide)
      · have w16 := w15.any b16 src16 p2' fr16
        have hlT : TH ≠ l := ne_of_none h1 hl
        have e15 : (upd H14 l (.lst [.int (10 ^ (30 : Int).toNat), .int (10 ^ (30 : Int).toNat + 1), .int (-10 ^ (30 : Int).toNat - 1), .int 0, .bl true])) TH = some (.lst ys) := by rw [upd_ne hlT]; exact h1
        have gT : G' TH = none := fr16 TH (by rw [e15]; simp) h6
        refine ⟨ys, b16 _ _ e15 ths.1, szl (by omega), ys ++ [v], es ++ [e], G', upd_same, by rw [List.length_append, h2]; rfl, DpAll.append (DpAll.part p1' _ _ h3) (.cons dp16 .nil), ?_, w16.aside gT hT1 ths, gT⟩
        intro x hx
        rcases List.mem_append.mp hx with hx | hx
        · exact h4 x hx
        · rw [List.mem_singleton.mp hx]; exact gd16
    obtain ⟨ys, es, G14, eT, lys, dps, gds, w14, gT14⟩ := h
    have lys : ys.length = 5 := lys
    have les : es.length = 5 := by rw [← DpAll.len dps]; exact lys
    clear w13 hTH
    -- the deeds
    refine ⟨_, rfl, S, 9, rfl, by decide, by decide, w14.sr, fun r' c1 st1 m1 r0' r1' => ?_⟩
    obtain ⟨many, rfl⟩ := Int.eq_ofNat_of_zero_le r0'
    have w15 := w14.take c1 st1 m1
    have eT15 : (upd H14 S (src c1 st1 m1)) TH = some (.lst ys) := by rw [upd_ne ths.1]; exact eT
    generalize upd H14 S (src c1 st1 m1) = H15 at w15 eT15 ⊢
    clear w14 eT
    refine ⟨_, rfl, by omega, by omega, for_range (lo := 0) (fun t' σ H => ∃ (d u : Bool → Addr) (ks xs : Bool → List Int) (G : Hp) (x8 x9 x10 x11 x12 : Option V), Wb C H1 H G S DU BA (two p0 p1) d u (two false shd) ks xs (6 + t') ∧ H TH = some (.lst ys) ∧ DpAll K G ys es ∧
      σ = [some (.ref a), some (.int (0 + ↑i)), some (.ref S), some (.ref GV), some (.ref DU), some (.bl shd), some (.ref BA), some (.ref TH), x8, x9, x10, x11, x12]) ?_ ?_ ?_⟩
    · exact ⟨_, _, _, _, G14, _, _, _, _, _, w15, eT15, dps, rfl⟩
    · rintro t' σ H16 ht' ⟨d, u, ks, xs, G, y8, y9, y10, y11, y12, w16, eT16, dp16, rfl⟩
      clear w15 eT15
      -- k, thing = ..; kind = ..
      refine ⟨_, rfl, S, 2, rfl, by decide, by decide, w16.sr, fun kk c2 st2 m2 k0 k1 => ?_⟩
      have w17 := w16.take c2 st2 m2
      refine ⟨_, rfl, S, rfl, w17.sr, fun v c3 st3 m3 fv => ?_⟩
      have w18 := w17.take c3 st3 m3
      refine ⟨_, _, rfl, _, rfl, S, 8, rfl, by decide, by decide, w18.sr, fun kind c4 st4 m4 q0 q1 => ?_⟩
      have w19 := w18.take c4 st4 m4
      have eT19 : (upd (upd (upd H16 S (src c2 st2 m2)) S (src c3 st3 m3)) S (src c4 st4 m4)) TH = some (.lst ys) := by rw [upd_ne ths.1, upd_ne ths.1, upd_ne ths.1]; exact eT16
      generalize upd (upd (upd H16 S (src c2 st2 m2)) S (src c3 st3 m3)) S (src c4 st4 m4) = H19 at w19 eT19 ⊢
      clear w16 w17 w18 eT16
      obtain ⟨j, rfl⟩ : ∃ j : Bool, kk = cond j 1 0 := by
        have : kk = 0 ∨ kk = 1 := by omega
        rcases this with rfl | rfl
        · exact ⟨false, rfl⟩
        · exact ⟨true, rfl⟩
      have atj : ∀ x y : V, atI [x, y] (cond j 1 0 : Int) = some (cond j y x) := by intro x y; cases j <;> rfl
      have atp : atI [V.ref (two p0 p1 false), V.ref (two p0 p1 true)] (cond j 1 0 : Int) = some (.ref (two p0 p1 j)) := by cases j <;> rfl
      have atu : atI [V.ref (u false), V.ref (u true)] (cond j 1 0 : Int) = some (.ref (u j)) := by cases j <;> rfl
      have ixj : ixN [V.ref (u false), V.ref (u true)].length (cond j 1 0 : Int) = some (cond j 1 0) := by cases j <;> rfl
      have setj : ∀ q, [V.ref (u false), V.ref (u true)].set (cond j 1 0) (.ref q) = [.ref (put u j q false), .ref (put u j q true)] := by intro q; cases j <;> rfl
      refine ⟨fun σ H => ∃ (d u : Bool → Addr) (ks xs : Bool → List Int) (G : Hp) (x10 : Option V), Wb C H1 H G S DU BA (two p0 p1) d u (two false shd) ks xs (6 + (t' + 1)) ∧ H TH = some (.lst ys) ∧ DpAll K G ys es ∧
        σ = [some (.ref a), some (.int (0 + ↑i)), some (.ref S), some (.ref GV), some (.ref DU), some (.bl shd), some (.ref BA), some (.ref TH), some (.int (0 + ↑t')), some (.int (cond j 1 0)), x10, some (.int kind), y12], ?_, ?_⟩
      · obtain ⟨⟨dxj, obj⟩, dcj⟩ := w19.bag j
        refine ⟨_, rfl, rfl, _, rfl, ite2 (fun _ => ?_) (fun _ => ?_)⟩
        · -- clear
          refine ⟨_, rfl, _, rfl, BA, _, _, _, rfl, rfl, SqL.of w19.bl, atp, two p0 p1 j, dxj, _, rfl, obj, bl_m _ _ (by decide +kernel) (by decide +kernel), two p0 p1 j, d j, _, ks j, rfl, w19.bag j, fun d' H20 hd' B20 g20 => ⟨rfl, _, rfl, iteF ?_⟩⟩
          refine ⟨szle (by simp), fun q hq => ?_⟩
          have g21 : But (fun x => x = two p0 p1 j ∨ x = d j) H19 (upd H20 q (.lst [])) := (g20.mono fun _ h => .inl h).trans (But.new hq)
          have hq19 : H19 q = none := by
            cases e : H19 q with
            | none => rfl
            | some o =>
              by_cases e2 : q = two p0 p1 j
              · obtain ⟨⟨dz, oz⟩, _⟩ := B20
                rw [e2, oz] at hq
                cases hq
              · rw [g20 q o e e2] at hq
                cases hq
          have w22 := w19.redo j (d' := d') (q := q) (ks' := []) (zs := []) (m' := 6 + (t' + 1)) g21 (B20.same (S := fun _ => False) (But.new hq) id id) (.inr hd') hq19 upd_same List.nodup_nil .nil (fun _ => Iff.rfl) (fun _ h => (nomatch h)) (Nat.zero_le _) (by omega)
          refine ⟨_, rfl, _, rfl, DU, _, _, _, rfl, rfl, g21 _ _ w19.dl (fun e => e.elim (fun e => (w19.npl j w19.dl).1 e.symm) (fun e => (w19.npl j w19.dl).2 e.symm)), ixj, ?_⟩
          rw [setj q]
          refine ⟨_, _, _, _, G, _, w22, ?_, dp16, rfl⟩
          rw [upd_ne ths.2.1]
          exact g21 _ _ eT19 (fun e => e.elim (fun e => (w19.npl j eT19).1 e.symm) (fun e => (w19.npl j eT19).2 e.symm))
        refine ⟨_, rfl, _, _, rfl, rfl, _, rfl, ite2 (fun _ => ?_) (fun _ => ?_)⟩
        · -- any value
          refine ⟨_, rfl, _, rfl, S, TH, ys, es, G, 2, wide 2 45, rfl, w19.sr, SqL.of eT19, ths.1.symm, w19.part, w19.ga, dp16, gds, wide_le 45 2, by omega, by omega, fun x e G' H20 b20 src20 p1' p2' fr20 dp20 gd20 => ?_⟩
          have w20 := w19.any b20 src20 p2' fr20
          have eT20 : H20 TH = some (.lst ys) := b20 _ _ eT19 ths.1
          have hx : Dp K H20 x e := Dp.part p2' _ _ dp20
          have done : ∀ H21, But (fun _ => False) H20 H21 → Wb C H1 H21 G' S DU BA (two p0 p1) d u (two false shd) ks xs (6 + (t' + 1)) ∧ H21 TH = some (.lst ys) := fun H21 g => by
            have w := w20.grow g
            exact ⟨⟨w.sr, w.dl, w.bl, w.bag, w.due, w.nd, w.up, w.same, w.fit, fun j => Nat.le_trans (w.few j) (by omega), w.part, w.au, w.pp, w.dd, w.ga, w.gD, w.gp, w.fr, w.fa, w.fD, w.fp⟩, g _ _ eT20 id⟩
          refine ⟨_, rfl, x, e, rfl, hx, _, rfl, ?_⟩
          cases hv : isVal e with
          | true =>
            obtain ⟨w21, eT21⟩ := done H20 But.refl
            exact iteF ⟨_, _, _, _, G', _, w21, eT21, DpAll.part p1' _ _ dp16, rfl⟩
          | false =>
            obtain ⟨⟨dxj', obj'⟩, dcj'⟩ := w20.bag j
            refine iteT ⟨_, rfl, _, rfl, BA, _, _, _, rfl, rfl, SqL.of w20.bl, atp, _, rfl, two p0 p1 j, d j, _, ks j, x, e, 4, wide 2 (wide 2 45), rfl, w20.bag j, hx, by have := w20.kfew j; omega, hv, gd20, by decide, by decide, fun t2 H21 ht2 et2 g21 => ?_⟩
            have pt21 : Part H20 H21 := fun b o h => g21 b o h id
            refine ⟨_, rfl, x, e, rfl, Dp.part pt21 _ _ hx, gd20.sh, gd20.noDict, Nat.le_trans gd20.ln (by decide), Nat.le_trans gd20.dp (by decide), szle (by simp), fun t3 ht3 => ?_⟩
            have sh : SeqAt.shaped (.tuple [.str e.shown, .bool true]) = true := by
              unfold SeqAt.shaped
              rw [PyData.canLay0, PyData.canLayAll0, PyData.canLay0, PyData.canLayAll0, PyData.canLay0, PyData.canLayAll0, gd20.so]
              simp [PyData.depth, PyData.depthAll]
            have g22 : But (fun _ => False) H21 (upd H21 t3 (.tup [.str e.shown, .bl true])) := But.new ht3
            refine ne_same (d := .tuple [.str e.shown, .bool true]) (.tup (.inl (.inl (g22 _ _ et2 id))) (.cons (.str _) (.cons (.bl _) .nil))) (.tup (.inl (.inl upd_same)) (.cons (.str _) (.cons (.bl _) .nil))) sh ⟨_, rfl, iteF ?_⟩
            obtain ⟨w22, eT22⟩ := done _ (g21.trans g22)
            exact ⟨_, _, _, _, G', _, w22, eT22, DpAll.part p1' _ _ dp16, rfl⟩
        · -- add
          refine ⟨_, rfl, _, rfl, BA, _, _, _, rfl, rfl, SqL.of w19.bl, atp, two p0 p1 j, dxj, _, rfl, obj, bl_m _ _ (by decide +kernel) (by decide +kernel), _, rfl, two p0 p1 j, d j, _, ks j, .int v, .int v, rfl, w19.bag j, .int v, by have := w19.kfew j; omega, fun z => ?_, fun n en hn => ⟨rfl, _, rfl, iteF ?_⟩⟩
          · rw [show isVal (.int v) = true from decide_eq_true fv] at z
            cases z
          obtain rfl : v = n := V.int.inj en
          have g20 : But (fun x => x = two p0 p1 j ∨ x = d j) H19 (upd H19 (d j) (.dK (kv (ins (ks j) v)))) := But.at (.inr rfl)
          have nl : ∀ {x : Addr} {vs : List V}, H19 x = some (.lst vs) → ¬ (x = two p0 p1 j ∨ x = d j) := fun {x vs} h e => e.elim (fun e => (w19.npl j h).1 e.symm) (fun e => (w19.npl j h).2 e.symm)
          have B20 : BagAt C (upd H19 (d j) (.dK (kv (ins (ks j) v)))) (two p0 p1 j) (d j) (two false shd j) (ins (ks j) v) := ⟨⟨dxj, by rw [upd_ne (w19.npd j j)]; exact obj⟩, upd_same⟩
          have fr20 : ∀ {x : Addr}, (upd H19 (d j) (.dK (kv (ins (ks j) v)))) x = none → H19 x = none := fun {x} h => by
            rw [upd_ne (fun e => by rw [e, upd_same] at h; cases h)] at h
            exact h
          generalize upd H19 (d j) (.dK (kv (ins (ks j) v))) = H20 at g20 B20 fr20 ⊢
          refine ⟨_, rfl, _, rfl, DU, _, _, _, rfl, rfl, SqL.of (g20 _ _ w19.dl (nl w19.dl)), atu, _, rfl, szle (by simp), fun l hl => ?_⟩
          have hul := g20 _ _ (w19.due j) (nl (w19.due j))
          refine ⟨u j, l, _, _, rfl, rfl, by rw [upd_ne (ne_of_none hul hl)]; exact hul, upd_same, by simp only [List.length_map, List.length_cons, List.length_nil]; have := w19.few j; exact szle (by omega), fun r hr21 => ?_⟩
          obtain ⟨zs, upz, samez⟩ := ex_rise (xs j ++ [v])
          have lz : zs.length ≤ 6 + (t' + 1) := by
            have := nd_len (up_nd upz) fun x hx => (samez x).2 hx
            have := w19.few j
            simp only [List.length_append, List.length_cons, List.length_nil] at *
            omega
          dsimp only [tNil]
          refine set_sorted (K := K) (w := w) (ns := xs j ++ [v]) (xs := zs) (by rw [List.map_append]; exact SqL.of upd_same) (by have := w19.few j; rw [List.length_append]; simp only [List.length_cons, List.length_nil]; omega) upz (fun x => (samez x).symm) fun q H22 hq eq22 g22 => ?_
          have g2022 : But (fun _ => False) H20 H22 := ((But.new hl).trans (But.new hr21)).trans g22
          have hq20 : H20 q = none := ((But.new hl).trans (But.new hr21)).free hq
          have g1922 : But (fun x => x = two p0 p1 j ∨ x = d j) H19 H22 := g20.trans (g2022.mono fun _ h => h.elim)
          have w23 := w19.redo j (d' := d j) (q := q) (ks' := ins (ks j) v) (zs := zs) (m' := 6 + (t' + 1)) g1922 (B20.grow g2022) (.inl rfl) (fr20 hq20) eq22 (ins_nd (w19.nd j) v) upz
            (fun x => (ins_mem (ks j) v x).trans (by rw [w19.same j x, ← samez x, List.mem_append, List.mem_singleton])) (fun x hx => by
              rcases List.mem_append.mp ((samez x).2 hx) with h | h
              · exact w19.fit j x h
              · rw [List.mem_singleton.mp h]; exact fv) lz (by omega)
          refine ⟨_, rfl, _, rfl, DU, _, _, _, rfl, rfl, g1922 _ _ w19.dl (nl w19.dl), ixj, ?_⟩
          rw [setj q]
          refine ⟨_, _, _, _, G, _, w23, ?_, dp16, rfl⟩
          rw [upd_ne ths.2.1]
          exact g1922 _ _ eT19 (nl eT19)
      · rintro σ H20 ⟨d, u, ks, xs, G, x10, w20, eT20, dp20, rfl⟩
        refine ⟨_, rfl, BA, _, _, _, rfl, rfl, SqL.of w20.bl, rfl, _, rfl, DU, _, _, _, rfl, rfl, SqL.of w20.dl, rfl, _, rfl, p0, u false, TH, false, xs false, ys, es, rfl, w20.due_ (by omega) false, eT20, DpAll.part w20.part _ _ dp20, by omega, fun H21 g21 => ⟨_, rfl, iteF ?_⟩⟩
        have w21 := w20.grow g21
        have eT21 := g21 _ _ eT20 id
        refine ⟨_, rfl, BA, _, _, _, rfl, rfl, SqL.of w21.bl, rfl, _, rfl, DU, _, _, _, rfl, rfl, SqL.of w21.dl, rfl, _, rfl, p1, u true, TH, shd, xs true, ys, es, rfl, w21.due_ (by omega) true, eT21, DpAll.part w21.part _ _ dp20, by omega, fun H22 g22 => ⟨_, rfl, iteF ?_⟩⟩
        exact ⟨d, u, ks, xs, G, _, _, _, _, _, w21.grow g22, g22 _ _ eT21 id, dp20, rfl⟩
    · rintro σ H16 ⟨d, u, ks, xs, G, y8, y9, y10, y11, y12, w16, eT16, dp16, rfl⟩
      clear w15 eT15
      have fewm : ∀ j, (xs j).length ≤ 20 := fun j => Nat.le_trans (w16.few j) (by omega)
      -- wrong
      refine ⟨_, rfl, TH, rfl, ⟨_, SqL.of eT16⟩, fun WR hWR => lc_list (xs := ys) (fun i H17 => ∃ ws : List V, H17 WR = some (.lst ws) ∧ ws.length ≤ i ∧ DpAll K G ws ((es.take i).filter fun e => !isVal e) ∧ But (fun _ => False) H16 H17) ⟨[], upd_same, Nat.le_refl _, .nil, But.new hWR⟩ (fun i H17 _ h => ?_) (fun i x H17 hx h => ?_) (fun H17 h => ?_)⟩
      · obtain ⟨ws, _, _, _, g⟩ := h
        exact SqL.of (g _ _ eT16 id)
      · obtain ⟨ws, h1, h2, h3, g⟩ := h
        have hi : i < 5 := by rw [← lys]; exact (List.getElem?_eq_some_iff.mp hx).1
        obtain ⟨e, he, hd⟩ := DpAll.at dp16 hx
        refine ⟨rfl, _, rfl, x, e, rfl, Dp.part (w16.part.grow g) _ _ hd, _, rfl, ?_⟩
        rw [filter_take _ _ he]
        cases hv : isVal e with
        | true => exact ⟨ws, h1, by omega, by simpa using h3, g⟩
        | false => exact ⟨_, rfl, ws, h1, szl (by omega), ws ++ [x], upd_same, by rw [List.length_append]; simp only [List.length_cons, List.length_nil]; omega, DpAll.append h3 (.cons hd .nil), g.fresh hWR⟩
      obtain ⟨ws, eW, lws, dpw, g17⟩ := h
      have ett : es.take ys.length = es := by rw [lys, ← les]; exact List.take_length
      rw [ett] at dpw
      have w17 := w16.grow g17
      have eT17 := g17 _ _ eT16 id
      -- unmade(dues[0] + things)
      refine ⟨_, rfl, DU, _, _, _, rfl, rfl, SqL.of w17.dl, rfl, _, rfl, u false, TH, _, _, rfl, rfl, w17.due false, eT17, by simp only [List.length_map]; have := fewm false; exact szle (by omega), fun r hr18 => ?_⟩
      have g18 : But (fun _ => False) H17 (upd H17 r (.lst ((xs false).map V.int ++ ys))) := But.new hr18
      have er : (upd H17 r (.lst ((xs false).map V.int ++ ys))) r = some (.lst ((xs false).map V.int ++ ys)) := upd_same
      generalize upd H17 r (.lst ((xs false).map V.int ++ ys)) = H18 at g18 er ⊢
      have w18 := w17.grow g18
      have eW18 := g18 _ _ eW id
      refine ⟨r, (xs false).map V.int ++ ys, (xs false).map PyData.int ++ es, 2, wide 2 45, rfl, SqL.of er, DpAll.append (DpAll.ints _) (DpAll.part w18.part _ _ dp16), by rw [List.length_append, List.length_map]; have := fewm false; omega, fun e he hv => ?_, by decide, by decide, fun H19 g19 => ?_⟩
      · rcases List.mem_append.mp he with h | h
        · obtain ⟨n, hn, rfl⟩ := List.mem_map.mp h
          rw [show isVal (.int n) = true from decide_eq_true (w16.fit false n hn)] at hv
          cases hv
        · exact gds e h
      have w19 := w18.grow g19
      have eW19 := g19 _ _ eW18 id
      rw [sh0_of (w16.fit false)]
      have gw : ∀ e ∈ es.filter (fun e => !isVal e), Gd 2 (wide 2 45) e := fun e he => gds e (List.mem_filter.mp he).1
      generalize es.filter (fun e => !isVal e) = fs at dpw gw ⊢
      refine ⟨_, rfl, szle (by simp), fun em hem => ?_⟩
      have g20 : But (fun _ => False) H19 (upd H19 em (.lst [])) := But.new hem
      have eE : (upd H19 em (.lst [])) em = some (.lst ([] : List V)) := upd_same
      generalize upd H19 em (.lst []) = H20 at g20 eE ⊢
      have w20 := w19.grow g20
      have eW20 := g20 _ _ eW19 id
      have dpw20 := DpAll.part w20.part _ _ dpw
      refine ⟨.list fs, .list [], .lst (SqL.of eW20) dpw20, .lst (SqL.of eE) .nil, (Gd.list gw).shaped (by decide), by decide +kernel, _, rfl, ?_⟩
      apply both
      · intro fin
        cases fs with
        | nil =>
          refine iteF ?_
          dsimp only [tC, sh0]
          refine ne_same (d := .none) .non .non (by decide +kernel) ?_
          exact ⟨_, rfl, iteF fin⟩
        | cons e0 fs =>
          cases dpw20 with
          | @cons w0 ws _ _ hw0 _ =>
            have ge := gw e0 List.mem_cons_self
            refine iteT ⟨_, rfl, WR, _, _, w0, rfl, rfl, SqL.of eW20, atI_nat (j := 0) rfl, w0, e0, rfl, hw0, ge.sh, ge.noDict, Nat.le_trans ge.ln (by decide), Nat.le_trans ge.dp (by decide), ?_⟩
            dsimp only [sh0]
            refine ne_same (d := .str e0.shown) (.str _) (.str _) ?_ ?_
            rotate_left
            · exact ⟨_, rfl, iteF fin⟩
            unfold SeqAt.shaped
            rw [PyData.canLay0, ge.so]
            simp [PyData.depth]
      -- shared
      obtain ⟨⟨dx0, ob0⟩, dc0⟩ := w20.bag false
      obtain ⟨⟨dx1, ob1⟩, dc1⟩ := w20.bag true
      refine ⟨_, rfl, BA, _, _, _, rfl, rfl, SqL.of w20.bl, rfl, p0, C, dx0, _, _, rfl, ob0, Cb.cl, Cb.nS, bl_sh _ _, false, false, rfl, rfl, _, rfl, iteF ?_⟩
      refine ⟨_, rfl, BA, _, _, _, rfl, rfl, SqL.of w20.bl, rfl, p1, C, dx1, _, _, rfl, ob1, Cb.cl, Cb.nS, bl_sh _ _, _, rfl, rfl, _, rfl, ?_⟩
      rw [show decide (V.bl (two false shd true) = V.bl shd) = true from decide_eq_true rfl]
      refine iteF ?_
      -- Bag().told() != []
      intro x9 dx9 hx9 hdx9 ne9
      refine make_one (ns := []) (l := et) (sh := false) (.inr (c.empty _)) (by simp) (by simp) hx9 hdx9 ne9 fun d9 H21 hd9 B9 g21 => ?_
      obtain ⟨⟨dxx, obx⟩, dcx⟩ := id B9
      refine ⟨x9, dxx, _, rfl, obx, bl_m _ _ (by decide +kernel) (by decide +kernel), x9, d9, false, [], [], rfl, B9, List.nodup_nil, .nil, fun _ => Iff.rfl, fun q H22 hq eq22 g22 => ⟨szle (by simp), fun em2 hem2 => ?_⟩⟩
      have g23 : But (fun _ => False) H22 (upd H22 em2 (.lst [])) := But.new hem2
      refine ne_ints (xs := []) (SqL.of (g23 _ _ eq22 id)) (SqL.of upd_same) ⟨_, rfl, iteF ?_⟩
      have w23 := w20.grow ((g21.trans g22).trans g23)
      generalize upd H22 em2 (.lst []) = H23 at w23 ⊢
      -- form
      obtain ⟨⟨dy0, oy0⟩, dz0⟩ := w23.bag false
      obtain ⟨⟨dy1, oy1⟩, dz1⟩ := w23.bag true
      refine ⟨_, rfl, BA, _, _, _, rfl, rfl, SqL.of w23.bl, rfl, p0, dy0, _, rfl, oy0, bl_m _ _ (by decide +kernel) (by decide +kernel), p0, rfl, rfl, _, rfl, ?_⟩
      rw [decide_eq_true (rfl : V.str "*" = V.str "*")]
      refine iteF ⟨_, rfl, BA, _, _, _, rfl, rfl, SqL.of w23.bl, rfl, p1, dy1, _, rfl, oy1, bl_m _ _ (by decide +kernel) (by decide +kernel), p1, rfl, rfl, _, rfl, ?_⟩
      rw [decide_eq_true (rfl : V.str "*" = V.str "*")]
      exact iteF ⟨g1.trans w23.fr, _, _, _, _, _, _, _, _, _, _, _, _, rfl⟩
end
end K09

set_option Elab.async false
set_option linter.all false
set_option maxRecDepth 100000
set_option maxHeartbeats 8000000
namespace K09
open PySem L2 L2.G42
theorem kit_sub {K : PySem.W.Frag} {B N : Addr} (h1 : PySem.W.subIn K (.ref B) (.ref N) = some true) (h2 : PySem.W.isClsIn K N = true) (h3 : PySem.W.typeIn K (.ref N) = some (.type "type")) : PySem.W.kitOne K (.ref B) (.ref N) = some true := by
  unfold PySem.W.kitOne
  split
  · rfl
  · have h2' : (PySem.W.clsIn K N).isSome = true := h2
    show (if ((PySem.W.clsIn K N).isSome && PySem.W.typeIn K (.ref N) == some (.type "type")) = true then PySem.W.subIn K (.ref B) (.ref N) else none) = some true
    rw [h2', h3, if_pos (by rfl), h1]
theorem exm_self {K : PySem.W.Frag} {S : Addr} (h1 : PySem.W.subIn K (.ref S) (.type "BaseException") = some true) (h2 : PySem.W.isClsIn K S = true) (h3 : PySem.W.typeIn K (.ref S) = some (.type "type")) (h4 : PySem.W.subIn K (.ref S) (.ref S) = some true) :
    PySem.W.exmOne K (.ref S) (.ref S) = some true := by
  have h2' : (PySem.W.clsIn K S).isSome = true := h2
  unfold PySem.W.exmOne
  rw [h1, if_pos (by rfl)]
  show (if ((PySem.W.clsIn K S).isSome && PySem.W.typeIn K (.ref S) == some (.type "type")) = true then PySem.W.subIn K (.ref S) (.ref S) else none) = some true
  rw [h2', h3, if_pos (by rfl), h4]
theorem all_mk {l : PySem.W.OpenLaw} {w : World} {K : PySem.W.Frag} {h : Heap} {mg : Str → Option Value} {fa C B NE et : Addr} (X : K.In h) (G : h.Ns mainGlobals mg) (hfa : mg "law" = some (.ref fa))
    {fBad fIsNum fIsVal fInit fHas fLen fTold fAdd fClear fForm fSource fTake fOf fValue fValues fAny fIsV fRef fUnm fRight fLaw dTInit dDInit : Addr} {odBad anBad odIsNum anIsNum odIsVal anIsVal odInit anInit odHas anHas odLen anLen odTold anTold odAdd anAdd odClear anClear odForm anForm odSource anSource odTake anTake odOf anOf odValue anValue odValues anValues odAny anAny odIsV anIsV odRef anRef odUnm anUnm odRight anRight odLaw anLaw : Option Addr} {slBad slIsNum slIsVal slInit slHas slLen slTold slAdd slClear slForm slSource slTake slOf slValue slValues slAny slIsV slRef slUnm slRight slLaw : Array (Option Value)} {ocBad dcBad pmBad cdBad ctBad kVBad ocIsNum dcIsNum pmIsNum cdIsNum ctIsNum kVIsNum ocIsVal dcIsVal pmIsVal cdIsVal ctIsVal kVIsVal ocInit dcInit pmInit cdInit ctInit ocHas dcHas pmHas cdHas ctHas kVHas ocLen dcLen pmLen cdLen ctLen kVLen ocTold dcTold pmTold cdTold ctTold kVTold ocAdd dcAdd pmAdd cdAdd ctAdd kVAdd ocClear dcClear pmClear cdClear ctClear kVClear ocForm dcForm pmForm cdForm ctForm kVForm ocSource dcSource pmSource cdSource ctSource kVSource ocTake dcTake pmTake cdTake ctTake kVTake ocOf dcOf pmOf cdOf ctOf kVOf ocValue dcValue pmValue cdValue ctValue kVValue ocValues dcValues pmValues cdValues ctValues kVValues ocAny dcAny pmAny cdAny ctAny kVAny ocIsV dcIsV pmIsV cdIsV ctIsV kVIsV ocRef dcRef pmRef cdRef ctRef kVRef ocUnm dcUnm pmUnm cdUnm ctUnm kVUnm ocRight dcRight pmRight cdRight ctRight kVRight ocLaw dcLaw pmLaw cdLaw ctLaw kVLaw : Value} {oT : Value} {oTd oEd : Option Addr} {nT nE : Nat} {slT slE : Array (Option Value)} {tg : Tok} {nmB qB : Str} {NB : Addr} {bsB subB : List Value} {snB : List Str} {abB : Bool} {colB : Option Bool} {ddB : Option Addr} {b0 b1 b2 b3 b5 : Option Value}
    (aC : PySem.W.nsIn K mainGlobals "Bag" = some (some (.ref C)))
    (aB : PySem.W.nsIn K mainGlobals "BadValue" = some (some (.ref B)))
    (aN : PySem.W.nsIn K mainGlobals "NestedError" = some (some (.ref NE)))
    (aBad : PySem.W.findIn K (.ref B) "__init__" = some (some (.ref fBad))) (iBad : PySem.W.isFn K (.ref fBad) = true)
    (lBad : K.lookup fBad = some ⟨ocBad, odBad, .func (PySem.W.fnOf "__init__" "BadValue.__init__" (defArgs sBad) (defBody sBad) (defScope sBad) .none kVBad dcBad pmBad anBad cdBad ctBad), slBad⟩) (cBad : PySem.W.codeIn K cdBad "BadValue.__init__" = true) (kBad : PySem.W.keepIn K (.ref fBad) = true)
    (aIsNum : PySem.W.nsIn K mainGlobals "is_number" = some (some (.ref fIsNum)))
    (lIsNum : K.lookup fIsNum = some ⟨ocIsNum, odIsNum, .func (PySem.W.fnOf "is_number" "is_number" (defArgs sIsNum) (defBody sIsNum) (defScope sIsNum) .none kVIsNum dcIsNum pmIsNum anIsNum cdIsNum ctIsNum), slIsNum⟩) (cIsNum : PySem.W.codeIn K cdIsNum "is_number" = true) (kIsNum : PySem.W.keepIn K (.ref fIsNum) = true)
    (aIsVal : PySem.W.nsIn K mainGlobals "is_value" = some (some (.ref fIsVal)))
    (lIsVal : K.lookup fIsVal = some ⟨ocIsVal, odIsVal, .func (PySem.W.fnOf "is_value" "is_value" (defArgs sIsVal) (defBody sIsVal) (defScope sIsVal) .none kVIsVal dcIsVal pmIsVal anIsVal cdIsVal ctIsVal), slIsVal⟩) (cIsVal : PySem.W.codeIn K cdIsVal "is_value" = true) (kIsVal : PySem.W.keepIn K (.ref fIsVal) = true)
    (aInit : PySem.W.findIn K (.ref C) "__init__" = some (some (.ref fInit))) (iInit : PySem.W.isFn K (.ref fInit) = true)
    (lInit : K.lookup fInit = some ⟨ocInit, odInit, .func (PySem.W.fnOf "__init__" "Bag.__init__" (defArgs sInit) (defBody sInit) (defScope sInit) (.ref dTInit) (.ref dDInit) dcInit pmInit anInit cdInit ctInit), slInit⟩) (cInit : PySem.W.codeIn K cdInit "Bag.__init__" = true) (kInit : PySem.W.keepIn K (.ref fInit) = true)
    (aHas : PySem.W.findIn K (.ref C) "__contains__" = some (some (.ref fHas))) (iHas : PySem.W.isFn K (.ref fHas) = true)
    (lHas : K.lookup fHas = some ⟨ocHas, odHas, .func (PySem.W.fnOf "__contains__" "Bag.__contains__" (defArgs sHas) (defBody sHas) (defScope sHas) .none kVHas dcHas pmHas anHas cdHas ctHas), slHas⟩) (cHas : PySem.W.codeIn K cdHas "Bag.__contains__" = true) (kHas : PySem.W.keepIn K (.ref fHas) = true)
    (aLen : PySem.W.findIn K (.ref C) "__len__" = some (some (.ref fLen))) (iLen : PySem.W.isFn K (.ref fLen) = true)
    (lLen : K.lookup fLen = some ⟨ocLen, odLen, .func (PySem.W.fnOf "__len__" "Bag.__len__" (defArgs sLen) (defBody sLen) (defScope sLen) .none kVLen dcLen pmLen anLen cdLen ctLen), slLen⟩) (cLen : PySem.W.codeIn K cdLen "Bag.__len__" = true) (kLen : PySem.W.keepIn K (.ref fLen) = true)
    (aTold : PySem.W.findIn K (.ref C) "told" = some (some (.ref fTold))) (iTold : PySem.W.isFn K (.ref fTold) = true)
    (lTold : K.lookup fTold = some ⟨ocTold, odTold, .func (PySem.W.fnOf "told" "Bag.told" (defArgs sTold) (defBody sTold) (defScope sTold) .none kVTold dcTold pmTold anTold cdTold ctTold), slTold⟩) (cTold : PySem.W.codeIn K cdTold "Bag.told" = true) (kTold : PySem.W.keepIn K (.ref fTold) = true)
    (aAdd : PySem.W.findIn K (.ref C) "add" = some (some (.ref fAdd))) (iAdd : PySem.W.isFn K (.ref fAdd) = true)
    (lAdd : K.lookup fAdd = some ⟨ocAdd, odAdd, .func (PySem.W.fnOf "add" "Bag.add" (defArgs sAdd) (defBody sAdd) (defScope sAdd) .none kVAdd dcAdd pmAdd anAdd cdAdd ctAdd), slAdd⟩) (cAdd : PySem.W.codeIn K cdAdd "Bag.add" = true) (kAdd : PySem.W.keepIn K (.ref fAdd) = true)
    (aClear : PySem.W.findIn K (.ref C) "clear" = some (some (.ref fClear))) (iClear : PySem.W.isFn K (.ref fClear) = true)
    (lClear : K.lookup fClear = some ⟨ocClear, odClear, .func (PySem.W.fnOf "clear" "Bag.clear" (defArgs sClear) (defBody sClear) (defScope sClear) .none kVClear dcClear pmClear anClear cdClear ctClear), slClear⟩) (cClear : PySem.W.codeIn K cdClear "Bag.clear" = true) (kClear : PySem.W.keepIn K (.ref fClear) = true)
    (aForm : PySem.W.findIn K (.ref C) "form" = some (some (.ref fForm))) (iForm : PySem.W.isFn K (.ref fForm) = true)
    (lForm : K.lookup fForm = some ⟨ocForm, odForm, .func (PySem.W.fnOf "form" "Bag.form" (defArgs sForm) (defBody sForm) (defScope sForm) .none kVForm dcForm pmForm anForm cdForm ctForm), slForm⟩) (cForm : PySem.W.codeIn K cdForm "Bag.form" = true) (kForm : PySem.W.keepIn K (.ref fForm) = true)
    (aSource : PySem.W.nsIn K mainGlobals "_law_source" = some (some (.ref fSource)))
    (lSource : K.lookup fSource = some ⟨ocSource, odSource, .func (PySem.W.fnOf "_law_source" "_law_source" (defArgs sSource) (defBody sSource) (defScope sSource) .none kVSource dcSource pmSource anSource cdSource ctSource), slSource⟩) (cSource : PySem.W.codeIn K cdSource "_law_source" = true) (kSource : PySem.W.keepIn K (.ref fSource) = true)
    (aTake : PySem.W.nsIn K mainGlobals "_law_take" = some (some (.ref fTake)))
    (lTake : K.lookup fTake = some ⟨ocTake, odTake, .func (PySem.W.fnOf "_law_take" "_law_take" (defArgs sTake) (defBody sTake) (defScope sTake) .none kVTake dcTake pmTake anTake cdTake ctTake), slTake⟩) (cTake : PySem.W.codeIn K cdTake "_law_take" = true) (kTake : PySem.W.keepIn K (.ref fTake) = true)
    (aOf : PySem.W.nsIn K mainGlobals "_law_of" = some (some (.ref fOf)))
    (lOf : K.lookup fOf = some ⟨ocOf, odOf, .func (PySem.W.fnOf "_law_of" "_law_of" (defArgs sOf) (defBody sOf) (defScope sOf) .none kVOf dcOf pmOf anOf cdOf ctOf), slOf⟩) (cOf : PySem.W.codeIn K cdOf "_law_of" = true) (kOf : PySem.W.keepIn K (.ref fOf) = true)
    (aValue : PySem.W.nsIn K mainGlobals "_law_value" = some (some (.ref fValue)))
    (lValue : K.lookup fValue = some ⟨ocValue, odValue, .func (PySem.W.fnOf "_law_value" "_law_value" (defArgs sValue) (defBody sValue) (defScope sValue) .none kVValue dcValue pmValue anValue cdValue ctValue), slValue⟩) (cValue : PySem.W.codeIn K cdValue "_law_value" = true) (kValue : PySem.W.keepIn K (.ref fValue) = true)
    (aValues : PySem.W.nsIn K mainGlobals "_law_values" = some (some (.ref fValues)))
    (lValues : K.lookup fValues = some ⟨ocValues, odValues, .func (PySem.W.fnOf "_law_values" "_law_values" (defArgs sValues) (defBody sValues) (defScope sValues) .none kVValues dcValues pmValues anValues cdValues ctValues), slValues⟩) (cValues : PySem.W.codeIn K cdValues "_law_values" = true) (kValues : PySem.W.keepIn K (.ref fValues) = true)
    (aAny : PySem.W.nsIn K mainGlobals "_law_any" = some (some (.ref fAny)))
    (lAny : K.lookup fAny = some ⟨ocAny, odAny, .func (PySem.W.fnOf "_law_any" "_law_any" (defArgs sAny) (defBody sAny) (defScope sAny) .none kVAny dcAny pmAny anAny cdAny ctAny), slAny⟩) (cAny : PySem.W.codeIn K cdAny "_law_any" = true) (kAny : PySem.W.keepIn K (.ref fAny) = true)
    (aIsV : PySem.W.nsIn K mainGlobals "_law_is_value" = some (some (.ref fIsV)))
    (lIsV : K.lookup fIsV = some ⟨ocIsV, odIsV, .func (PySem.W.fnOf "_law_is_value" "_law_is_value" (defArgs sIsV) (defBody sIsV) (defScope sIsV) .none kVIsV dcIsV pmIsV anIsV cdIsV ctIsV), slIsV⟩) (cIsV : PySem.W.codeIn K cdIsV "_law_is_value" = true) (kIsV : PySem.W.keepIn K (.ref fIsV) = true)
    (aRef : PySem.W.nsIn K mainGlobals "_law_refused" = some (some (.ref fRef)))
    (lRef : K.lookup fRef = some ⟨ocRef, odRef, .func (PySem.W.fnOf "_law_refused" "_law_refused" (defArgs sRef) (defBody sRef) (defScope sRef) .none kVRef dcRef pmRef anRef cdRef ctRef), slRef⟩) (cRef : PySem.W.codeIn K cdRef "_law_refused" = true) (kRef : PySem.W.keepIn K (.ref fRef) = true)
    (aUnm : PySem.W.nsIn K mainGlobals "_law_unmade" = some (some (.ref fUnm)))
    (lUnm : K.lookup fUnm = some ⟨ocUnm, odUnm, .func (PySem.W.fnOf "_law_unmade" "_law_unmade" (defArgs sUnm) (defBody sUnm) (defScope sUnm) .none kVUnm dcUnm pmUnm anUnm cdUnm ctUnm), slUnm⟩) (cUnm : PySem.W.codeIn K cdUnm "_law_unmade" = true) (kUnm : PySem.W.keepIn K (.ref fUnm) = true)
    (aRight : PySem.W.nsIn K mainGlobals "_law_right" = some (some (.ref fRight)))
    (lRight : K.lookup fRight = some ⟨ocRight, odRight, .func (PySem.W.fnOf "_law_right" "_law_right" (defArgs sRight) (defBody sRight) (defScope sRight) .none kVRight dcRight pmRight anRight cdRight ctRight), slRight⟩) (cRight : PySem.W.codeIn K cdRight "_law_right" = true) (kRight : PySem.W.keepIn K (.ref fRight) = true)
    (aLaw : PySem.W.nsIn K mainGlobals "law" = some (some (.ref fLaw)))
    (lLaw : K.lookup fLaw = some ⟨ocLaw, odLaw, .func (PySem.W.fnOf "law" "law" (defArgs sLaw) (defBody sLaw) (defScope sLaw) .none kVLaw dcLaw pmLaw anLaw cdLaw ctLaw), slLaw⟩) (cLaw : PySem.W.codeIn K cdLaw "law" = true) (kLaw : PySem.W.keepIn K (.ref fLaw) = true)
    (pg : PySem.W.plainGet K C Str.empty = true)
    (hd : PySem.W.hasDictIn K C = true)
    (po : PySem.W.plainOver K C = true)
    (sa : PySem.W.findIn K (.ref C) "__setattr__" = some (some (.builtin "object.__setattr__")))
    (mk : PySem.W.makesIn K C = true)
    (kc : PySem.W.keepIn K (.ref C) = true)
    (nI : PySem.W.findIn K (.ref C) "inside" = some none)
    (nS : PySem.W.findIn K (.ref C) "shared" = some none)
    (xB : K.lookup B = some (excClassObj nmB qB B NB bsB [.ref NE, .type "ValueError", .type "Exception", .type "BaseException", .type "object"] true snB subB abB colB ddB b0 b1 b2 b3 b5 "ValueError.__new__"))
    (bsa : PySem.W.findIn K (.ref B) "__setattr__" = some (some (.builtin "object.__setattr__")))
    (bga : PySem.W.findIn K (.ref B) "__getattribute__" = some (some (.builtin "BaseException.__getattribute__")))
    (bgg : PySem.W.findIn K (.ref B) "__getattr__" = some none)
    (bno : PySem.W.findIn K (.ref B) "value" = some none)
    (btI : PySem.W.typeIn K (.ref fBad) = some (.type "function"))
    (bk : PySem.W.keepIn K (.ref B) = true)
    (bex : PySem.W.subIn K (.ref B) (.type "BaseException") = some true)
    (bty : PySem.W.typeIn K (.ref B) = some (.type "type"))
    (bhd : PySem.W.hasDictIn K B = true)
    (bic : PySem.W.isClsIn K B = true)
    (bsS : PySem.W.subIn K (.ref B) (.ref B) = some true)
    (bcl : PySem.W.findIn K (.ref B) "__class__" = some (some (.builtin "object.__class__")))
    (bsp : PySem.W.specialIn K (.builtin "object.__class__") "__get__" = some (some (.builtin "getset_descriptor.__get__")))
    (btk : PySem.W.takesIn K (.builtin "object.__class__") = some true)
    (bob : PySem.W.mroIn K B (.type "object") = some true)
    (bsN : PySem.W.subIn K (.ref B) (.ref NE) = some true)
    (nic : PySem.W.isClsIn K NE = true)
    (nty : PySem.W.typeIn K (.ref NE) = some (.type "type"))
    (gr : PySem.W.nsIn K mainGlobals "GREATEST" = some (some (.int 1000000000000000000000000000000 tg)))
    (lT : K.lookup dTInit = some ⟨oT, oTd, .seq #[.ref et] nT, slT⟩)
    (lE : K.lookup et = some ⟨.type "tuple", oEd, .seq #[] nE, slE⟩)
    (kD : PySem.W.nsIn K dDInit "shared" = some (some (.bool false)))
    (z_isinstance : PySem.W.nsIn K mainGlobals "isinstance" = some none)
    (z_int : PySem.W.nsIn K mainGlobals "int" = some none)
    (z_bool : PySem.W.nsIn K mainGlobals "bool" = some none)
    (z_list : PySem.W.nsIn K mainGlobals "list" = some none)
    (z_sorted : PySem.W.nsIn K mainGlobals "sorted" = some none)
    (z_len : PySem.W.nsIn K mainGlobals "len" = some none)
    (z_set : PySem.W.nsIn K mainGlobals "set" = some none)
    (z_range : PySem.W.nsIn K mainGlobals "range" = some none)
    (z_enumerate : PySem.W.nsIn K mainGlobals "enumerate" = some none)
    (z_max : PySem.W.nsIn K mainGlobals "max" = some none)
    (z_min : PySem.W.nsIn K mainGlobals "min" = some none)
    (z_abs : PySem.W.nsIn K mainGlobals "abs" = some none)
    (z_any : PySem.W.nsIn K mainGlobals "any" = some none)
    (z_all : PySem.W.nsIn K mainGlobals "all" = some none)
    (z_tuple : PySem.W.nsIn K mainGlobals "tuple" = some none)
    (z_str : PySem.W.nsIn K mainGlobals "str" = some none)
    (z_dict : PySem.W.nsIn K mainGlobals "dict" = some none)
    (z_repr : PySem.W.nsIn K mainGlobals "repr" = some none)
    : ∃ fd : FuncData, (∀ (s : Shared) (v : Value), BindsTo s fd ⟨[v], []⟩ [("_law_script", v)]) ∧ ∀ base : Heap, K.In base → base.Ns mainGlobals mg → FnG l.prog w K mg base CX0 6 fa fd ["_law_script"] (spLaw K) := by
  have e := hfa.symm.trans (PySem.W.mg_of X G aLaw)
  cases e
  have ten : (1000000000000000000000000000000 : Int) = 10 ^ 30 := by decide
  have gr' : ∃ t, mg "GREATEST" = some (.int (10 ^ 30) t) := ⟨tg, by
    rw [← ten]
    exact PySem.W.mg_of X G gr⟩
  have T : Bn mg := ⟨PySem.W.mg_none_of X G z_isinstance, PySem.W.mg_none_of X G z_int, PySem.W.mg_none_of X G z_bool, PySem.W.mg_none_of X G z_list, PySem.W.mg_none_of X G z_sorted, PySem.W.mg_none_of X G z_len, PySem.W.mg_none_of X G z_set, PySem.W.mg_none_of X G z_range, PySem.W.mg_none_of X G z_enumerate, PySem.W.mg_none_of X G z_max, PySem.W.mg_none_of X G z_min, PySem.W.mg_none_of X G z_abs, PySem.W.mg_none_of X G z_any, PySem.W.mg_none_of X G z_all, PySem.W.mg_none_of X G z_tuple, PySem.W.mg_none_of X G z_str, PySem.W.mg_none_of X G z_dict, PySem.W.mg_none_of X G z_repr⟩
  have Cb : BagC K C := ⟨⟨pg, hd, po, sa⟩, nI, nS⟩
  have Bt : BadT K mg B NE := ⟨PySem.W.mg_of X G aB, ⟨bga, bgg, bex, bhd⟩, ⟨bic, bga, bgg, bex, bcl, bsp, btk, bob⟩, bno, exm_self bex bic bty bsS, PySem.W.mg_of X G aN, kit_sub bsN nic nty⟩
  have Ox : OexC K B := ⟨⟨nmB, qB, NB, bsB, _, snB, subB, abB, colB, ddB, b0, b1, b2, b3, b5, xB, (show PySem.HandSPX.refsVE [.type "ValueError", .type "Exception", .type "BaseException", .type "object"] = true by decide +kernel)⟩, bsa, bex, bty, bk⟩
  have FBad := fun_mk (st := sBad) lBad cBad kBad
  have FIsNum := fun_mk (st := sIsNum) lIsNum cIsNum kIsNum
  have FIsVal := fun_mk (st := sIsVal) lIsVal cIsVal kIsVal
  have FHas := fun_mk (st := sHas) lHas cHas kHas
  have FLen := fun_mk (st := sLen) lLen cLen kLen
  have FTold := fun_mk (st := sTold) lTold cTold kTold
  have FAdd := fun_mk (st := sAdd) lAdd cAdd kAdd
  have FClear := fun_mk (st := sClear) lClear cClear kClear
  have FForm := fun_mk (st := sForm) lForm cForm kForm
  have FSource := fun_mk (st := sSource) lSource cSource kSource
  have FTake := fun_mk (st := sTake) lTake cTake kTake
  have FOf := fun_mk (st := sOf) lOf cOf kOf
  have FValue := fun_mk (st := sValue) lValue cValue kValue
  have FValues := fun_mk (st := sValues) lValues cValues kValues
  have FAny := fun_mk (st := sAny) lAny cAny kAny
  have FIsV := fun_mk (st := sIsV) lIsV cIsV kIsV
  have FRef := fun_mk (st := sRef) lRef cRef kRef
  have FUnm := fun_mk (st := sUnm) lUnm cUnm kUnm
  have FRight := fun_mk (st := sRight) lRight cRight kRight
  have FLaw := fun_mk (st := sLaw) lLaw cLaw kLaw
  have FInit : FunD K "__init__" "Bag.__init__" (defArgs sInit) (defBody sInit) (defScope sInit) [.ref et] [("shared", .bl false)] fInit _ :=
    ⟨⟨ocInit, odInit, _, _, _, _, _, _, _, slInit, rfl, lInit, cInit, .inr ⟨by simp, dTInit, _, [.ref et], nT, rfl, lT, rfl, .cons rfl .nil⟩, .inr ⟨dDInit, rfl, fun q hq => by
      rw [List.mem_singleton.mp hq]
      exact ⟨_, kD, rfl⟩⟩⟩, kInit⟩
  obtain ⟨dsI, vI, bI⟩ := FInit.binds (ps := ["self", "values", "shared"]) 2 1 (by simp) rfl (fun T D doc pm an cdv ct us its ks h1 h2 h3 => match us, h1, its, h2, ks, h3 with
    | [_, _], _, [_], _, [_], _ => ⟨_, rfl, ⟨_, _, _, _, _, _, rfl, rfl, rfl⟩⟩) (by simp)
  obtain ⟨dsZ, vZ, bZ⟩ := FInit.binds (ps := ["self", "values", "shared"]) 1 0 (by simp) rfl (fun T D doc pm an cdv ct us its ks h1 h2 h3 => match us, h1, its, h2, ks, h3 with
    | [_], _, [_], _, [_], _ => ⟨_, rfl, ⟨_, _, _, _, _, _, rfl, rfl, rfl⟩⟩) (by simp)
  obtain ⟨itsI, kbI⟩ := FInit.kbindsD (ps := ["self", "values", "shared"]) 2 ["shared"] (fun us _ ws => us ++ ws) (by simp) (fun r1 _ r3 => r1.append r3) (fun T kV doc pm an cdv ct us its ws h1 h2 h3 => match us, h1, its, h2, ws, h3 with
    | [_, _], _, [_], _, [_], _ => ⟨_, rfl, rfl⟩)
  have bBad := FBad.binds (ps := ["self", "value"]) fun _ _ _ _ _ _ us hl => match us, hl with | [_, _], _ => rfl
  have bIsNum := FIsNum.binds (ps := ["thing"]) fun _ _ _ _ _ _ us hl => match us, hl with | [_], _ => rfl
  have bIsVal := FIsVal.binds (ps := ["thing"]) fun _ _ _ _ _ _ us hl => match us, hl with | [_], _ => rfl
  have bHas := FHas.binds (ps := ["self", "value"]) fun _ _ _ _ _ _ us hl => match us, hl with | [_, _], _ => rfl
  have bLen := FLen.binds (ps := ["self"]) fun _ _ _ _ _ _ us hl => match us, hl with | [_], _ => rfl
  have bTold := FTold.binds (ps := ["self"]) fun _ _ _ _ _ _ us hl => match us, hl with | [_], _ => rfl
  have bAdd := FAdd.binds (ps := ["self", "value"]) fun _ _ _ _ _ _ us hl => match us, hl with | [_, _], _ => rfl
  have bClear := FClear.binds (ps := ["self"]) fun _ _ _ _ _ _ us hl => match us, hl with | [_], _ => rfl
  have bForm := FForm.binds (ps := ["self"]) fun _ _ _ _ _ _ us hl => match us, hl with | [_], _ => rfl
  have bSource := FSource.binds (ps := ["_law_script", "_law_at"]) fun _ _ _ _ _ _ us hl => match us, hl with | [_, _], _ => rfl
  have bTake := FTake.binds (ps := ["_law_source_here", "_law_many"]) fun _ _ _ _ _ _ us hl => match us, hl with | [_, _], _ => rfl
  have bOf := FOf.binds (ps := ["_law_source_here", "_law_some"]) fun _ _ _ _ _ _ us hl => match us, hl with | [_, _], _ => rfl
  have bValue := FValue.binds (ps := ["_law_source_here"]) fun _ _ _ _ _ _ us hl => match us, hl with | [_], _ => rfl
  have bValues := FValues.binds (ps := ["_law_source_here", "_law_most"]) fun _ _ _ _ _ _ us hl => match us, hl with | [_, _], _ => rfl
  have bAny := FAny.binds (ps := ["_law_source_here", "_law_atoms", "_law_depth"]) fun _ _ _ _ _ _ us hl => match us, hl with | [_, _, _], _ => rfl
  have bIsV := FIsV.binds (ps := ["_law_thing"]) fun _ _ _ _ _ _ us hl => match us, hl with | [_], _ => rfl
  have bRef := FRef.binds (ps := ["_law_bag", "_law_thing"]) fun _ _ _ _ _ _ us hl => match us, hl with | [_, _], _ => rfl
  have bUnm := FUnm.binds (ps := ["_law_values_here"]) fun _ _ _ _ _ _ us hl => match us, hl with | [_], _ => rfl
  have bRight := FRight.binds (ps := ["_law_bag", "_law_due", "_law_things"]) fun _ _ _ _ _ _ us hl => match us, hl with | [_, _, _], _ => rfl
  refine ⟨_, fun s v => .of_eq rfl, fun base _ _ => ok_law (B := B) (et := et) FLaw T Cb ?_⟩
  have cNum : Cl l.prog w K mg base 1 "is_number" (spIsNum K) [] := ⟨_, _, _, _, ok_isNum FIsNum T, PySem.W.mg_of X G aIsNum, kIsNum, bIsNum, .nil⟩
  have cVal : Cl l.prog w K mg base 2 "is_value" (spIsVal K) [] := ⟨_, _, _, _, ok_isVal FIsVal gr' cNum, PySem.W.mg_of X G aIsVal, kIsVal, bIsVal, .nil⟩
  have er : Er l.prog w K mg base 1 "BadValue" B "value" := ⟨⟨_, _, _, ok_bad FBad Ox bno, aBad, btI, bBad⟩, Ox, PySem.W.mg_of X G aB⟩
  have OI : FnOk l.prog w K mg base (L2.CX l.prog w) 3 fInit _ ["self", "values", "shared"] (spInit K C B) := ok_init FInit Cb cVal er
  have MI : Mk K C fInit := ⟨mk, aInit, iInit, kc⟩
  have cTake : Cl l.prog w K mg base 1 "_law_take" spTake [] := ⟨_, _, _, _, ok_take FTake T, PySem.W.mg_of X G aTake, kTake, bTake, .nil⟩
  have cOf : Cl l.prog w K mg base 2 "_law_of" (spOf K) [] := ⟨_, _, _, _, ok_of FOf T cTake, PySem.W.mg_of X G aOf, kOf, bOf, .nil⟩
  have cValue : Cl l.prog w K mg base 2 "_law_value" spValue [] := ⟨_, _, _, _, ok_value FValue cTake, PySem.W.mg_of X G aValue, kValue, bValue, .nil⟩
  have cA0 : Cl l.prog w K mg base 3 "_law_any" (spAny K 0) [] := ⟨_, _, _, _, ok_any (k := 2) FAny T cTake cOf (by decide) (fun m h => by omega), PySem.W.mg_of X G aAny, kAny, bAny, .nil⟩
  have cA1 : Cl l.prog w K mg base 4 "_law_any" (spAny K 1) [] := ⟨_, _, _, _, ok_any (k := 3) FAny T cTake cOf (by decide) (fun m h => by
    obtain rfl : m = 0 := by omega
    exact cA0), PySem.W.mg_of X G aAny, kAny, bAny, .nil⟩
  have cA2 : Cl l.prog w K mg base 5 "_law_any" (spAny K 2) [] := ⟨_, _, _, _, ok_any (k := 4) FAny T cTake cOf (by decide) (fun m h => by
    obtain rfl : m = 1 := by omega
    exact cA1), PySem.W.mg_of X G aAny, kAny, bAny, .nil⟩
  have mTold : Mt l.prog w K mg base 1 C "told" (spTold C) [] := ⟨_, _, _, _, Cb.cl, ⟨aTold, iTold, kTold⟩, ok_told FTold T Cb, bTold, .nil⟩
  have mAdd : MtX l.prog w K mg base 3 C "add" (spAdd K C B) [] := ⟨_, _, _, _, Cb.cl, ⟨aAdd, iAdd, kAdd⟩, ok_add FAdd Cb cVal er, bAdd, .nil⟩
  have kBag : NwX l.prog w K mg base 3 "Bag" C (spInit K C B) [.bl false] := ⟨fInit, _, _, dsI, MI, OI, PySem.W.mg_of X G aC, bI, vI⟩
  have cIsV : Cl l.prog w K mg base 1 "_law_is_value" (spIsVal K) [] := ⟨_, _, _, _, ok_isV FIsV T, PySem.W.mg_of X G aIsV, kIsV, bIsV, .nil⟩
  exact {
    source := ⟨_, _, _, _, ok_source FSource T, PySem.W.mg_of X G aSource, kSource, bSource, .nil⟩
    take := cTake
    value := cValue
    values := ⟨_, _, _, _, ok_values FValues T cTake cValue, PySem.W.mg_of X G aValues, kValues, bValues, .nil⟩
    any := cA2
    isV := cIsV
    ref := ⟨_, _, _, _, ok_ref FRef T Bt mAdd, PySem.W.mg_of X G aRef, kRef, bRef, .nil⟩
    unm := ⟨_, _, _, _, ok_unm FUnm T Bt kBag, PySem.W.mg_of X G aUnm, kUnm, bUnm, .nil⟩
    right := ⟨_, _, _, _, ok_right FRight T mTold ⟨_, _, _, ok_len FLen T Cb, aLen, iLen, bLen⟩ ⟨_, _, _, ok_has FHas Cb cVal, aHas, iHas, bHas⟩ cIsV, PySem.W.mg_of X G aRight, kRight, bRight, .nil⟩
    told := mTold
    add := mAdd
    clear := ⟨_, _, _, _, Cb.cl, ⟨aClear, iClear, kClear⟩, ok_clear FClear Cb, bClear, .nil⟩
    form := ⟨_, _, _, _, Cb.cl, ⟨aForm, iForm, kForm⟩, ok_form FForm, bForm, .nil⟩
    bag := kBag
    bag0 := ⟨fInit, _, _, dsZ, MI, OI, PySem.W.mg_of X G aC, bZ, vZ⟩
    bagS := ⟨fInit, _, MI, OI, kbI⟩
    empty := fun H => .inr ⟨_, #[], _, lE, rfl, rfl, by decide, .nil⟩
    gl := PySem.W.mg_of X G aC }
theorem walk {l : PySem.W.OpenLaw} {q : Program} {loose : List Str} {XP : (Str → Option Value) → Heap → Prop} {YP : World → Heap → Prop} {d : DefRec} {K : Params → PySem.W.Frag} (hn : l.most = some 63) (hdf : d.params.defaults = [])
    (hY : ∀ (w : World) (h : Heap), YP w h → (K w.params).In h)
    (F : ∀ (w : World) (mg : Str → Option Value) (fa : Addr) (h : Heap), (K w.params).In h → h.Ns mainGlobals mg → mg d.name = some (.ref fa) →
      ∃ fd : FuncData, (∀ (s : Shared) (u : Value), BindsTo s fd ⟨[u], []⟩ [("_law_script", u)]) ∧ ∀ base : Heap, (K w.params).In base → base.Ns mainGlobals mg → FnG l.prog w (K w.params) mg base CX0 6 fa fd ["_law_script"] (spLaw (K w.params))) :
    PySem.W.WalkO q loose XP YP l.row.toRowW d [] (fun f vs => PySem.call f vs) :=
  walk_ofG (n := 63) (k := 6) (x := "_law_script") (sp := fun w => spLaw (K w.params)) hn (by decide) hdf ⟨rfl, by decide, by decide⟩ hY F (fun _ _ a ns hl _ hS => ⟨a, ns, rfl, hS, hl, fun _ => rfl⟩)
end K09
open PySem PySem.W PyProof.Rows
set_option maxRecDepth 100000 in
set_option maxHeartbeats 0 in
theorem PySem.Challenge.cw_nestedwrites_k09_values_in_bags_holds : PySem.Challenge.rw_nestedwrites_k09_values_in_bags.Holds := by
  w_on; o_law; k_head; (case hw => w_witness2)
  k_fill
  refine K09.walk (l := PySem.Challenge.rw_nestedwrites_k09_values_in_bags) rfl rfl (fun w h Y => PySem.W.kIn_of Y) ?F
  case F =>
    intro w mg fa h KX G hmg
    refine' K09.all_mk KX G hmg ?aC ?aB ?aN ?aBad ?iBad ?lBad ?cBad ?kBad ?aIsNum ?lIsNum ?cIsNum ?kIsNum ?aIsVal ?lIsVal ?cIsVal ?kIsVal ?aInit ?iInit ?lInit ?cInit ?kInit ?aHas ?iHas ?lHas ?cHas ?kHas ?aLen ?iLen ?lLen ?cLen ?kLen ?aTold ?iTold ?lTold ?cTold ?kTold ?aAdd ?iAdd ?lAdd ?cAdd ?kAdd ?aClear ?iClear ?lClear ?cClear ?kClear ?aForm ?iForm ?lForm ?cForm ?kForm ?aSource ?lSource ?cSource ?kSource ?aTake ?lTake ?cTake ?kTake ?aOf ?lOf ?cOf ?kOf ?aValue ?lValue ?cValue ?kValue ?aValues ?lValues ?cValues ?kValues ?aAny ?lAny ?cAny ?kAny ?aIsV ?lIsV ?cIsV ?kIsV ?aRef ?lRef ?cRef ?kRef ?aUnm ?lUnm ?cUnm ?kUnm ?aRight ?lRight ?cRight ?kRight ?aLaw ?lLaw ?cLaw ?kLaw ?pg ?hd ?po ?sa ?mk ?kc ?nI ?nS ?xB ?bsa ?bga ?bgg ?bno ?btI ?bk ?bex ?bty ?bhd ?bic ?bsS ?bcl ?bsp ?btk ?bob ?bsN ?nic ?nty ?gr ?lT ?lE ?kD ?z_isinstance ?z_int ?z_bool ?z_list ?z_sorted ?z_len ?z_set ?z_range ?z_enumerate ?z_max ?z_min ?z_abs ?z_any ?z_all ?z_tuple ?z_str ?z_dict ?z_repr
    (case aC => k_is)
    (case aB => k_is)
    (case aN => k_is)
    (case aBad => k_is)
    (case iBad => k_is)
    (case lBad => k_is)
    (case cBad => k_is)
    (case kBad => k_is)
    (case aIsNum => k_is)
    (case lIsNum => k_is)
    (case cIsNum => k_is)
    (case kIsNum => k_is)
    (case aIsVal => k_is)
    (case lIsVal => k_is)
    (case cIsVal => k_is)
    (case kIsVal => k_is)
    (case aInit => k_is)
    (case iInit => k_is)
    (case lInit => k_is)
    (case cInit => k_is)
    (case kInit => k_is)
    (case aHas => k_is)
    (case iHas => k_is)
    (case lHas => k_is)
    (case cHas => k_is)
    (case kHas => k_is)
    (case aLen => k_is)
    (case iLen => k_is)
    (case lLen => k_is)
    (case cLen => k_is)
    (case kLen => k_is)
    (case aTold => k_is)
    (case iTold => k_is)
    (case lTold => k_is)
    (case cTold => k_is)
    (case kTold => k_is)
    (case aAdd => k_is)
    (case iAdd => k_is)
    (case lAdd => k_is)
    (case cAdd => k_is)
    (case kAdd => k_is)
    (case aClear => k_is)
    (case iClear => k_is)
    (case lClear => k_is)
    (case cClear => k_is)
    (case kClear => k_is)
    (case aForm => k_is)
    (case iForm => k_is)
    (case lForm => k_is)
    (case cForm => k_is)
    (case kForm => k_is)
    (case aSource => k_is)
    (case lSource => k_is)
    (case cSource => k_is)
    (case kSource => k_is)
    (case aTake => k_is)
    (case lTake => k_is)
    (case cTake => k_is)
    (case kTake => k_is)
    (case aOf => k_is)
    (case lOf => k_is)
    (case cOf => k_is)
    (case kOf => k_is)
    (case aValue => k_is)
    (case lValue => k_is)
    (case cValue => k_is)
    (case kValue => k_is)
    (case aValues => k_is)
    (case lValues => k_is)
    (case cValues => k_is)
    (case kValues => k_is)
    (case aAny => k_is)
    (case lAny => k_is)
    (case cAny => k_is)
    (case kAny => k_is)
    (case aIsV => k_is)
    (case lIsV => k_is)
    (case cIsV => k_is)
    (case kIsV => k_is)
    (case aRef => k_is)
    (case lRef => k_is)
    (case cRef => k_is)
    (case kRef => k_is)
    (case aUnm => k_is)
    (case lUnm => k_is)
    (case cUnm => k_is)
    (case kUnm => k_is)
    (case aRight => k_is)
    (case lRight => k_is)
    (case cRight => k_is)
    (case kRight => k_is)
    (case aLaw => k_is)
    (case lLaw => k_is)
    (case cLaw => k_is)
    (case kLaw => k_is)
    (case pg => k_is)
    (case hd => k_is)
    (case po => k_is)
    (case sa => k_is)
    (case mk => k_is)
    (case kc => k_is)
    (case nI => k_is)
    (case nS => k_is)
    (case xB => k_is)
    (case bsa => k_is)
    (case bga => k_is)
    (case bgg => k_is)
    (case bno => k_is)
    (case btI => k_is)
    (case bk => k_is)
    (case bex => k_is)
    (case bty => k_is)
    (case bhd => k_is)
    (case bic => k_is)
    (case bsS => first | k_is | rfl)
    (case bcl => k_is)
    (case bsp => k_is)
    (case btk => k_is)
    (case bob => k_is)
    (case bsN => first | k_is | rfl)
    (case nic => k_is)
    (case nty => k_is)
    (case gr => k_is)
    (case lT => k_is)
    (case lE => k_is)
    (case kD => k_is)
    (case z_isinstance => k_is)
    (case z_int => k_is)
    (case z_bool => k_is)
    (case z_list => k_is)
    (case z_sorted => k_is)
    (case z_len => k_is)
    (case z_set => k_is)
    (case z_range => k_is)
    (case z_enumerate => k_is)
    (case z_max => k_is)
    (case z_min => k_is)
    (case z_abs => k_is)
    (case z_any => k_is)
    (case z_all => k_is)
    (case z_tuple => k_is)
    (case z_str => k_is)
    (case z_dict => k_is)
    (case z_repr => k_is)
#print axioms PySem.Challenge.cw_nestedwrites_k09_values_in_bags_holds
